import PyProof.Rows.All
import Wide.All
import OpenK.AllK
import Wide.FinOn
import KE.KStateDown
import Lean
import HandS.Base
import HandS.Call
import HandS.List
import HandS.Comp
import HandS.Ends
import HandS.More
import HandS.Text
import HandS.Words
import HandS.WordsList
import HandS.Exc
import HandS.WordsExc
import HandS.Defaults
import HandS.Wide
import HandS.WideBits
import HandS.IsInst
import HandS.FStr
import HandS.MakeKwOnly
import HandS.Property
import HandS.ClsMeth
import HandS.Evl
import HandS.Head0
import HandS.Head1
import HandS.Head2
import HandS.HeadEnd
import HandS.HeadHook1
import HandS.HeadHook2
import HandS.Codes
import HandS.MakeKw
import HandS.TupAny
import KE.IntTextLaws
import KE.KOpsOwn
import HandS.SlotsOwn
import PyProof.InstEq
import HandS.RevRange
import HandS.Style
import HandS.SortInts
import HandS.ExcInit
import HandS.ExcField
import KE.KExcIs
import PyProof.ExcBaseAll.LookupError
import PyProof.ExcBaseAll.ArithmeticError
import PyProof.ExcBaseAll.ValueError
import HandS.Dict
import HandS.HotCalls
import KE.KTryMore
import HandS.Lambda
import HandS.HeadHook4
import HandS.TupMul
import HandS.Conv
import HandS.Iter
import HandS.Steps
import HandS.Star
import HandS.Deep
import HandS.DictComp
import HandS.Zip
import PyProof.LongRange
import HandS.RaiseMore
import PySem.Challenge.RW_drawclaims_k25_counts_by_all_draws
import PyProof.ReprLen
import PyProof.SliceStr2
import PyProof.SumWalkG
import PyProof.WalksMore
import PyProof.Rows.SumAny
import KE.KDictZip
import HandS.Keys
import HandS.GenList
set_option Elab.async false
set_option linter.all false
set_option maxRecDepth 100000
set_option maxHeartbeats 8000000
/-! LayA: a hook of facts about defs at any place; good defs; steps of readings -/
namespace Hk
open PySem PySem.Spec PyProof.Rows L2 He
/-- one def: where it stands, its name, qualified name, parameters, body, scope, defaults -/
structure DefE where
  adr : PySem.W.Frag → Addr
  name : Str
  qual : Str
  params : Arguments
  body : List Stmt
  scope : Scope
  dfl : List Dv := []
  kwd : List (Str × Dv) := []
def fnE (K : PySem.W.Frag) (a : Addr) : FnW := match K.lookup a with
  | some ⟨_, _, .func fd, _⟩ => some (fd.name, fd.qualname, fd.params, fd.body, fd.scope, fd.globals, fd.closure, fd.builtins)
  | _ => none
def DefE.val (d : DefE) : FnW := some (d.name, d.qual, d.params, .stmts d.body, d.scope, mainGlobals, [], builtinsNs)
def DefE.dvs (K : PySem.W.Frag) (d : DefE) : List V := d.dfl.map (Dv.v K)
def DefE.kws (K : PySem.W.Frag) (d : DefE) : List (Str × V) := d.kwd.map fun q => (q.1, q.2.v K)
def DefE.ok (K : PySem.W.Frag) (d : DefE) : Bool := PySem.W.keepIn K (.ref (d.adr K)) && (match K.lookup (d.adr K) with
  | some ⟨_, _, .func fd, _⟩ => PySem.W.codeIn K fd.code d.qual && (dflB K fd.defaults (d.dvs K) && kwdB K fd.kwdefaults (d.kws K))
  | _ => false)
theorem DefE.funD {K : PySem.W.Frag} {d : DefE} (e : fnE K (d.adr K) = d.val) (c : d.ok K = true) : ∃ fd, FunD K d.name d.qual d.params d.body d.scope (d.dvs K) (d.kws K) (d.adr K) fd := by
  obtain ⟨kp, c2⟩ := ba c
  unfold fnE at e
  cases q : K.lookup (d.adr K) with
  | none =>
    rw [q] at c2
    cases c2
  | some o =>
    obtain ⟨oc, od, dt, osl⟩ := o
    rw [q] at c2 e
    cases dt with
    | func fd =>
      obtain ⟨n1, n2, n3, n4, n5, n6, n7, n8, n9, n10, n11, n12, n13, n14, n15⟩ := fd
      have e2 : (some (n1, n2, n3, n4, n5, n6, n7, n15) : FnW) = some (d.name, d.qual, d.params, .stmts d.body, d.scope, mainGlobals, [], builtinsNs) := e
      simp only [Option.some.injEq, Prod.mk.injEq] at e2
      obtain ⟨h1, h2, h3, h4, h5, h6, h7, h8⟩ := e2
      subst h1 h2 h3 h4 h5 h6 h7 h8
      have c3 : (PySem.W.codeIn K n13 d.qual && (dflB K n8 (d.dvs K) && kwdB K n9 (d.kws K))) = true := c2
      obtain ⟨k1, k2⟩ := ba c3
      obtain ⟨k3, k4⟩ := ba k2
      exact ⟨_, ⟨oc, od, n8, n9, n10, n11, n12, n13, n14, osl, rfl, q, k1, dflB_ok k3, kwdB_ok k4⟩, kp⟩
    | _ => cases c2
/-! the Hook -/
abbrev AlE : Type := Bool × List FnW
def obsE (fa : List Fa) (fn : List DefE) (ex : PySem.W.Frag → Bool) (K : PySem.W.Frag) : AlE := ((fa.all fun f => f.ok K) && ((fn.all fun d => d.ok K) && ex K), fn.map fun d => fnE K (d.adr K))
def valE (fn : List DefE) : AlE := (true, fn.map DefE.val)
def SaysE (fa : List Fa) (fn : List DefE) (ex : PySem.W.Frag → Bool) (K : PySem.W.Frag) : Prop := obsE fa fn ex K = valE fn
section
variable {fa : List Fa} {fn : List DefE} {ex : PySem.W.Frag → Bool} {K : PySem.W.Frag}
theorem SaysE.parts (c : SaysE fa fn ex K) : (fa.all fun f => f.ok K) = true ∧ (fn.all fun d => d.ok K) = true ∧ ex K = true := by
  have c1 : ((fa.all fun f => f.ok K) && ((fn.all fun d => d.ok K) && ex K)) = true := congrArg (fun z : AlE => z.1) c
  obtain ⟨h1, h2⟩ := ba c1
  obtain ⟨h3, h4⟩ := ba h2
  exact ⟨h1, h3, h4⟩
theorem SaysE.fact (c : SaysE fa fn ex K) (i : Nat) {f : Fa} (h : fa[i]? = some f := by rfl) : f.ok K = true :=
  List.all_eq_true.mp c.parts.1 f (List.mem_of_getElem? h)
theorem SaysE.more (c : SaysE fa fn ex K) : ex K = true := c.parts.2.2
theorem SaysE.def_ (c : SaysE fa fn ex K) (i : Nat) {d : DefE} (h : fn[i]? = some d := by rfl) : ∃ fd, FunD K d.name d.qual d.params d.body d.scope (d.dvs K) (d.kws K) (d.adr K) fd := by
  have c2 := c.parts.2.1
  have e : fn.map (fun d => fnE K (d.adr K)) = fn.map DefE.val := congrArg (fun z : AlE => z.2) c
  have e2 : (fn.map fun d => fnE K (d.adr K))[i]? = (fn.map DefE.val)[i]? := by rw [e]
  rw [List.getElem?_map, List.getElem?_map, h] at e2
  exact DefE.funD (Option.some.inj e2) (List.all_eq_true.mp c2 d (List.mem_of_getElem? h))
end
/-- the def of the record (a property, a classmethod, a staticmethod) that the class has under this name -/
def wfA (x : Str) (T : String) (m : Str) (K : PySem.W.Frag) : Addr := match PySem.W.recIn K (ma K (ga K x) m) T with
  | some (.ref f :: _) => f
  | _ => 0
end Hk
namespace My
open PySem PySem.Spec PyProof.Rows L2
/-! good defs: beside the room it is known that no repr is under way -/
structure RG (k : Nat) (A : Around) : Prop where
  r : Room k A
  g : A.guards = some []
theorem RG.mono {j k : Nat} {A : Around} (r : RG k A) (h : j ≤ k) : RG j A := ⟨r.r.mono h, r.g⟩
theorem RG.deeper {k : Nat} {A : Around} (r : RG (k + 1) A) (env : Env) : RG k (A.deeper env) := ⟨r.r.deeper env, r.g⟩
theorem RG.units {k : Nat} {A : Around} (r : RG k A) : A.units + 64 < cLine := r.r.units
theorem RG.make {k : Nat} {A : Around} (r : RG (k + 1) A) (C : Addr) (us : List Value) (kw : List (Str × Value)) : RG k (A.under (.builtin "type.__call__" ⟨.ref C :: us, kw⟩)) := by
  refine ⟨r.r.make C us kw, ?_⟩
  show pushGuards (Code.guards (.builtin "type.__call__" ⟨.ref C :: us, kw⟩)) A.guards = some []
  have e : Code.guards (.builtin "type.__call__" ⟨.ref C :: us, kw⟩) = [] := by
    unfold Code.guards Code.isGuard
    rw [if_neg (show ¬ (guardIds.contains "type.__call__" = true) from by decide +kernel)]
  rw [e]
  exact r.g
/-- the def fd at f keeps its promise wherever no repr is under way -/
structure FnG (P : Program) (w : World) (K : PySem.W.Frag) (mg : Str → Option Value) (base : Heap) (CX : CXT) (k : Nat) (f : Addr) (fd : FuncData) (ps : List Str) (sp : Sp) : Prop where
  len : ∀ vs H Q E, sp vs H Q E → vs.length = ps.length
  run : ∀ (A : Around) (outer : List Env) (s : Shared) (H : Hp) (args : Args) (us : List Value) (vs : List V) (Q : VK) (E : XK), RG k A → Env0 P w K mg base A outer s H → BindsTo s fd args (ps.zip us) → Vals vs us → sp vs H Q E →
    codeAny (model P w) A (.call (.ref f) args) (CR CX outer P w H s Q E) s
/-- dvs: the values of the parameters that a call by position does not write -/
structure Gf (P : Program) (w : World) (K : PySem.W.Frag) (mg : Str → Option Value) (base : Heap) (CX : CXT) (k : Nat) (f : Addr) (ps : List Str) (dvs : List V) (sp : Sp) : Prop where
  ex : ∃ (fd : FuncData) (ds : List Value), FnG P w K mg base CX k f fd ps sp ∧ Binds K fd ps ds ∧ Vals dvs ds
  kp : PySem.W.keepIn K (.ref f) = true
section
variable {CX : CXT} {P : Program} {w : World} {K : PySem.W.Frag} {mg : Str → Option Value} {base : Heap} {k : Nat} {f : Addr} {x qual : Str} {params : Arguments} {body : List Stmt} {scope : Scope} {dvs : List V} {kws : List (Str × V)} {fd : FuncData} {N ps : List Str} {sp : Sp}
end
section
variable {X : Cx} {CX : CXT} {k j : Nat} {f C : Addr} {x : Str} {ps : List Str} {dvs : List V} {sp : Sp} {E : XK} {e : Expr} {es : List Expr} {p pos : Pos} {t : TA}
theorem Gf.go {A : Around} {H : Hp} {s : Shared} {us : List Value} {vs : List V} {Q : VK} {outer : List Env} {P : Program} {w : World} {K : PySem.W.Frag} {mg : Str → Option Value} {base : Heap} (G : Gf P w K mg base CX k f ps dvs sp) (hr : RG j A) (hj : k ≤ j) (e0 : Env0 P w K mg base A outer s H) (KX : K.In s.heap) (r : Vals vs us) (h : sp (vs ++ dvs) H Q E) :
    codeAny (model P w) A (.call (.ref f) ⟨us, []⟩) (CR CX outer P w H s Q E) s := by
  obtain ⟨fd, ds, F, hb, hd⟩ := G.ex
  have r2 := r.append hd
  exact F.run A outer s H ⟨us, []⟩ (us ++ ds) (vs ++ dvs) Q E (hr.mono hj) e0 (hb s us KX (by rw [← r2.length]; exact F.len _ _ _ _ h)) r2 h
/-- a class whose instances its own __init__ makes -/
structure Mg (K : PySem.W.Frag) (C f : Addr) : Prop where
  makes : PySem.W.makesIn K C = true
  init : PySem.W.findIn K (.ref C) "__init__" = some (some (.ref f))
  fn : PySem.W.isFn K (.ref f) = true
  kp : PySem.W.keepIn K (.ref C) = true
end
section
end
/-! tests -/
section
variable {A B : Prop}
theorem i_pos {p : Prop} [Decidable p] (hp : p) (h : A) : if decide p = true then A else B := by
  rw [if_pos (decide_eq_true hp)]
  exact h
theorem i_neg {p : Prop} [Decidable p] (hp : ¬ p) (h : B) : if decide p = true then A else B := by
  rw [if_neg (by rw [decide_eq_false hp]; exact Bool.false_ne_true)]
  exact h
theorem i_two {p : Prop} [Decidable p] (h1 : p → A) (h2 : ¬ p → B) : if decide p = true then A else B := by
  by_cases hp : p
  · exact i_pos hp (h1 hp)
  · exact i_neg hp (h2 hp)
theorem n_pos {p : Prop} [Decidable p] (hp : p) (h : B) : if (!decide p) = true then A else B := by
  rw [if_neg (by rw [decide_eq_true hp]; exact Bool.false_ne_true)]
  exact h
theorem n_neg {p : Prop} [Decidable p] (hp : ¬ p) (h : A) : if (!decide p) = true then A else B := by
  rw [if_pos (by rw [decide_eq_false hp] <;> rfl)]
  exact h
theorem n_two {p : Prop} [Decidable p] (h1 : p → B) (h2 : ¬ p → A) : if (!decide p) = true then A else B := by
  by_cases hp : p
  · exact n_pos hp (h1 hp)
  · exact n_neg hp (h2 hp)
theorem nb_two {b : Bool} (h1 : b = true → B) (h2 : b = false → A) : if (!b) = true then A else B := by
  cases b with
  | true => exact h1 rfl
  | false => exact h2 rfl
theorem i_t (h : A) : if true = true then A else B := h
theorem i_f (h : B) : if false = true then A else B := h
theorem i_nt (h : B) : if (!true) = true then A else B := h
theorem i_nf (h : A) : if (!false) = true then A else B := h
end
/-! operators on ints, texts, bools with their own readings -/
section
variable {X : Cx}
theorem op_mulA : OpR X (binaryOp .Mult) (rI IntMulOk fun i j => .int (i * j)) := opI fun _ _ _ _ _ _ _ hc q => mul_int q hc
def rSB (f : Str → Str → Bool) : R2 := fun x y H Q => ∃ a b, x = .str a ∧ y = .str b ∧ Q (.bl (f a b)) H
theorem op_eqI : OpR X (compareOp .Eq) (rI0 fun i j => .bl (decide (i = j))) := fun pins s σ H x y v u Q I rx ry h => by
  obtain ⟨i, j, rfl, rfl, q⟩ := h
  refine op_eq pins s σ H _ _ v u Q I rx ry ⟨rfl, ?_⟩
  rw [dec_int, Bool.beq_eq_decide_eq]
  exact q
theorem op_neI : OpR X (compareOp .NotEq) (rI0 fun i j => .bl (!decide (i = j))) := fun pins s σ H x y v u Q I rx ry h => by
  obtain ⟨i, j, rfl, rfl, q⟩ := h
  refine op_ne pins s σ H _ _ v u Q I rx ry ⟨rfl, ?_⟩
  rw [dec_int, Bool.beq_eq_decide_eq]
  exact q
theorem op_eqS : OpR X (compareOp .Eq) (rSB fun a b => decide (a = b)) := fun pins s σ H x y v u Q I rx ry h => by
  obtain ⟨i, j, rfl, rfl, q⟩ := h
  refine op_eq pins s σ H _ _ v u Q I rx ry ⟨rfl, ?_⟩
  rw [dec_str, Bool.beq_eq_decide_eq]
  exact q
theorem op_neS : OpR X (compareOp .NotEq) (rSB fun a b => !decide (a = b)) := fun pins s σ H x y v u Q I rx ry h => by
  obtain ⟨i, j, rfl, rfl, q⟩ := h
  refine op_ne pins s σ H _ _ v u Q I rx ry ⟨rfl, ?_⟩
  rw [dec_str, Bool.beq_eq_decide_eq]
  exact q
end
/-! steps -/
section
variable {K : PySem.W.Frag} {σ : L2.St} {H : Hp} {nx bk ct : L2.St → Hp → Prop} {rt : VK} {ta tb tc te tv : TE} {Q : VK} {t u : TS} {g : TG} {tA : TA} {c d : TT} {R : Bool → Hp → Prop} {RA : List V → Hp → Prop}
end
end My

set_option Elab.async false
set_option linter.all false
set_option maxRecDepth 100000
set_option maxHeartbeats 8000000
/-! LayB: methods, properties, classmethods, keywords, str and repr of own objects, repr of data -/
namespace My
open PySem PySem.Spec PyProof.Rows L2
section
variable {X : Cx} {CX : CXT} {k j : Nat} {f C : Addr} {x m : Str} {ps : List Str} {dvs : List V} {sp : Sp} {E : XK} {o e : Expr} {es : List Expr} {p pos apos : Pos} {t : TA} {ta : TE}
end
/-! f(.., k = v, ..), C(.., k = v, ..) -/
/-- a def as a call with n positional values and keywords ks finds it; gV puts both in the parameters' order -/
structure Gk (P : Program) (w : World) (K : PySem.W.Frag) (mg : Str → Option Value) (base : Heap) (CX : CXT) (k : Nat) (f : Addr) (ps : List Str) (n : Nat) (ks : List Str) (gV : List V → List V → List V) (sp : Sp) : Prop where
  ex : ∃ (fd : FuncData) (g : List Value → List Value → List Value), FnG P w K mg base CX k f fd ps sp ∧ KBn K fd ps n ks g gV
  kp : PySem.W.keepIn K (.ref f) = true
section
variable {X : Cx} {CX : CXT} {k j n : Nat} {f C : Addr} {x m : Str} {ps ks : List Str} {sp : Sp} {E : XK} {o e : Expr} {es : List Expr} {p pos apos : Pos} {t tk : TA} {ta : TE} {kws : List Keyword} {gV : List V → List V → List V}
theorem Gk.go {A : Around} {H : Hp} {s : Shared} {us ws : List Value} {vs zs : List V} {Q : VK} {outer : List Env} {P : Program} {w : World} {K : PySem.W.Frag} {mg : Str → Option Value} {base : Heap} (G : Gk P w K mg base CX k f ps n ks gV sp) (hr : RG j A) (hj : k ≤ j) (e0 : Env0 P w K mg base A outer s H) (KX : K.In s.heap)
    (r : Vals vs us) (rz : Vals zs ws) (l1 : vs.length = n) (l2 : zs.length = ks.length) (h : sp (gV vs zs) H Q E) :
    codeAny (model P w) A (.call (.ref f) ⟨us, ks.zip ws⟩) (CR CX outer P w H s Q E) s := by
  obtain ⟨fd, g, F, hb⟩ := G.ex
  exact F.run A outer s H ⟨us, ks.zip ws⟩ (g us ws) (gV vs zs) Q E (hr.mono hj) e0 (hb.to s us ws KX (r.length.symm.trans l1) (rz.length.symm.trans l2)) (hb.rel r rz) h
end
/-! str, repr of an own object; repr of data -/
section
variable {X : Cx} {CX : CXT} {k j : Nat} {f C : Addr} {ps : List Str} {sp : Sp}
end
end My

set_option Elab.async false
set_option linter.all false
set_option maxRecDepth 100000
set_option maxHeartbeats 8000000
/-! LayC: what a head tells of classes, as Bools -/
namespace My
open PySem PySem.Spec PyProof.Rows L2 He
def crB (K : PySem.W.Frag) (x : Str) : Bool := PySem.W.readsIn K (ga K x) (.type "type") && eqO (PySem.W.specialIn K (.ref (ga K x)) "__getattribute__") (some (some (.builtin "type.__getattribute__")))
theorem crB_ok {K : PySem.W.Frag} {x : Str} (h : crB K x = true) : ClX.CRead K (ga K x) (.type "type") := by
  obtain ⟨h1, h2⟩ := ba h
  exact ⟨h1, eqO_ok h2⟩
def cmB (K : PySem.W.Frag) (x m : Str) : Bool := (match PySem.W.findCls K (.ref (ga K x)) (.type "type") m with
    | some (.get (.builtin g) (.ref p) .none (.ref D)) => decide (g = "classmethod.__get__") && (decide (p = ma K (ga K x) m) && decide (D = ga K x))
    | _ => false) && ((match PySem.W.recIn K (ma K (ga K x) m) "classmethod" with
    | some (.ref f :: _) => decide (f = Hk.wfA x "classmethod" m K)
    | _ => false) && PySem.W.fnIn K (Hk.wfA x "classmethod" m K))
theorem cmB_ok {K : PySem.W.Frag} {x m : Str} (h : cmB K x m = true) : ClX.CMet K (ga K x) (.type "type") m (ma K (ga K x) m) (Hk.wfA x "classmethod" m K) := by
  obtain ⟨h1, h⟩ := ba h
  obtain ⟨h2, h3⟩ := ba h
  refine ⟨?_, ?_, h3⟩
  · split at h1
    · rename_i g p D e
      obtain ⟨e1, e2⟩ := ba h1
      obtain ⟨e2, e3⟩ := ba e2
      rw [e, of_decide_eq_true e1, of_decide_eq_true e2, of_decide_eq_true e3]
    · cases h1
  · split at h2
    · rename_i f rest e
      exact ⟨rest, by rw [e, of_decide_eq_true h2]⟩
    · cases h2
/-- isinstance may be asked of the class's instances -/
structure InsOk (K : PySem.W.Frag) (C : Addr) : Prop where
  cl : Cls K C
  ha : PySem.W.findIn K (.ref C) "__class__" = some (some (.builtin "object.__class__"))
  hn : PySem.W.specialIn K (.builtin "object.__class__") "__get__" = some (some (.builtin "getset_descriptor.__get__"))
  htk : PySem.W.takesIn K (.builtin "object.__class__") = some true
  hm : PySem.W.mroIn K C (.type "object") = some true
theorem InsOk.ty {K : PySem.W.Frag} {H : Hp} {a C dx : Addr} {fs : List (Str × V)} (i : InsOk K C) (e : H a = some (.ins C dx fs)) : TyX K H (.ref a) (.ref C) := .base (.ins e i.cl i.ha i.hn i.htk i.hm)
def insB (K : PySem.W.Frag) (x : Str) : Bool := eqO (PySem.W.findIn K (.ref (ga K x)) "__class__") (some (some (.builtin "object.__class__"))) && (eqO (PySem.W.specialIn K (.builtin "object.__class__") "__get__") (some (some (.builtin "getset_descriptor.__get__"))) &&
  (decide (PySem.W.takesIn K (.builtin "object.__class__") = some true) && decide (PySem.W.mroIn K (ga K x) (.type "object") = some true)))
theorem insB_ok {K : PySem.W.Frag} {x : Str} (c : Cls K (ga K x)) (h : insB K x = true) : InsOk K (ga K x) := by
  obtain ⟨h1, h⟩ := ba h
  obtain ⟨h2, h⟩ := ba h
  obtain ⟨h3, h4⟩ := ba h
  exact ⟨c, eqO_ok h1, eqO_ok h2, of_decide_eq_true h3, of_decide_eq_true h4⟩
structure SpOk (K : PySem.W.Frag) (C : Addr) (m : Str) (f : Addr) : Prop where
  at_ : PySem.W.findIn K (.ref C) m = some (some (.ref f))
  fn : PySem.W.isFn K (.ref f) = true
def isiB (K : PySem.W.Frag) (t c : Value) (b : Bool) : Bool := decide (PySem.W.kitOne K t c = some b)
theorem isiB_ok {K : PySem.W.Frag} {t c : Value} {b : Bool} (h : isiB K t c b = true) : PySem.W.kitOne K t c = some b := of_decide_eq_true h
theorem mg_ok {K : PySem.W.Frag} {x : Str} (h : (Fa.mkr x).ok K = true) : Mg K (ga K x) (ma K (ga K x) "__init__") := by
  obtain ⟨h1, h⟩ := ba h
  obtain ⟨h2, h⟩ := ba h
  obtain ⟨h3, h4⟩ := ba h
  exact ⟨h1, eqO_ok h2, h3, h4⟩
end My

set_option Elab.async false
set_option linter.all false
set_option maxRecDepth 100000
set_option maxHeartbeats 8000000
/-! LayD: the law's end, where it is known that no repr is under way -/
namespace My
open PySem PySem.Spec PyProof.Rows L2
end My

set_option Elab.async false
set_option linter.all false
set_option maxRecDepth 100000
set_option maxHeartbeats 8000000
/-! LayE: heaps, lists, texts: steps -/
namespace My
open PySem PySem.Spec PyProof.Rows L2
/-- all but p stands -/
def But (p : Addr) (H H' : Hp) : Prop := ∀ q o, q ≠ p → H q = some o → H' q = some o
theorem But.at {p q : Addr} {H H' : Hp} {o : HO} (b : But p H H') (n : q ≠ p) (h : H q = some o) : H' q = some o := b q o n h
theorem But.rfl {p : Addr} {H : Hp} : But p H H := fun _ _ _ h => h
theorem But.trans {p : Addr} {H H1 H2 : Hp} (a : But p H H1) (b : But p H1 H2) : But p H H2 := fun q o n h => b q o n (a q o n h)
theorem But.new {p r : Addr} {H H1 : Hp} {u : HO} (a : But p H H1) (n : H1 r = none) : But p H (upd H1 r u) := fun q o m h => by
  have z := a q o m h
  rw [upd_ne (ne_of_none z n)]
  exact z
theorem But.put {p : Addr} {H H1 : Hp} {u : HO} (a : But p H H1) : But p H (upd H1 p u) := fun q o m h => by
  rw [upd_ne m]
  exact a q o m h
/-- an object that H does not know changes -/
theorem But.own {p r : Addr} {H H1 : Hp} {u : HO} (a : But p H H1) (n : H r = none) : But p H (upd H1 r u) := fun q o m h => by
  rw [upd_ne (ne_of_none h n)]
  exact a q o m h
theorem But.none {p r : Addr} {H H1 : Hp} (a : But p H H1) (n : H1 r = none) (m : r ≠ p) : H r = none := by
  cases q : H r with
  | none => rfl
  | some o =>
    rw [a r o m q] at n
    cases n
theorem Same.at {q : Addr} {H H' : Hp} {o : HO} (b : Same H H') (h : H q = some o) : H' q = some o := b q o h
theorem Same.new {r : Addr} {H H1 : Hp} {u : HO} (a : Same H H1) (n : H1 r = none) : Same H (upd H1 r u) := fun q o h => by
  have z := a q o h
  rw [upd_ne (ne_of_none z n)]
  exact z
theorem Same.own {r : Addr} {H H1 : Hp} {u : HO} (a : Same H H1) (n : H r = none) : Same H (upd H1 r u) := fun q o h => by
  rw [upd_ne (ne_of_none h n)]
  exact a q o h
theorem But.sqL {K : PySem.W.Frag} {p a : Addr} {H H' : Hp} {xs : List V} (b : But p H H') (n : a ≠ p) (h : SqL K H a xs) : SqL K H' a xs := by
  rcases h with (h | ⟨o, h⟩) | h
  · exact .inl (.inl (b _ _ n h))
  · exact .inl (.inr ⟨o, b _ _ n h⟩)
  · exact .inr h
section
variable {K : PySem.W.Frag} {σ : L2.St} {H : Hp} {nx bk ct : L2.St → Hp → Prop} {rt : VK} {ta tb tc te tv : TE} {Q : VK} {t u : TS} {g : TG} {tA : TA} {c d : TT} {R : Bool → Hp → Prop} {RA : List V → Hp → Prop} {N : L2.St → Hp → Prop}
end
section
end
section
variable {K : PySem.W.Frag} {σ : L2.St} {H : Hp} {nx bk ct : L2.St → Hp → Prop} {rt : VK} {tl : TE} {tb : TS} {g : TG} {tA : TA} {c : TT}
end
theorem call_divmodA {X : Cx} : CallR X (.builtin "divmod") (fun xs H Q => ∃ i j, xs = [.int i, .int j] ∧ CDivW i j ∧ ∀ p, H p = none → Q (.ref p) (upd H p (.tup [.int (i / j), .int (i % j)]))) := by
  intro pins s σ H xs us Q I r h
  obtain ⟨i, j, rfl, hc, q⟩ := h
  exact call_divmodW pins s σ H _ us Q I r ⟨i, j, rfl, ⟨hc.1, PyProof.noPylong_of_log2 hc.2⟩, q⟩
/-- a product one of whose factors is below 2 ^ 64 -/
theorem ml {i j : Int} (h1 : -(2 ^ 64) < i) (h2 : i < 2 ^ 64) : IntMulOk i j := CMul.ok (.inl ⟨h1, h2⟩)
theorem mr {i j : Int} (h1 : -(2 ^ 64) < j) (h2 : j < 2 ^ 64) : IntMulOk i j := CMul.ok (.inr ⟨h1, h2⟩)
theorem sz {n : Nat} (h : n ≤ 1000) : n ≤ sizeLine := Nat.le_trans h (by decide)
/-- a divisor below 2 ^ 60 -/
theorem dv {i j : Int} (h1 : 0 < j) (h2 : j < 2 ^ 60) : CDivW i j := wide_div (b := 60) h1 (by omega) (by decide) (by decide)
end My

set_option Elab.async false
set_option linter.all false
set_option maxRecDepth 100000
set_option maxHeartbeats 8000000
/-! LayF: sizes of ints, texts of ints, more steps, comparisons of data, list comprehensions -/
namespace My
open PySem PySem.Builtin PySem.Builtin.Str PySem.Spec PyProof.Rows L2 SX
/-! ### sizes -/
def Bd (b : Nat) (i : Int) : Prop := i.natAbs < 2 ^ b
theorem Bd.of {b : Nat} {i : Int} (h1 : -(2 ^ b) < i) (h2 : i < 2 ^ b) : Bd b i := by
  have e : ((2 : Nat) ^ b : Int) = (2 : Int) ^ b := rfl
  unfold Bd
  have z : ((2 ^ b : Nat) : Int) = (2 : Int) ^ b := by push_cast; rfl
  omega
theorem Bd.mono {a b : Nat} {i : Int} (h : Bd a i) (hab : a ≤ b) : Bd b i := Nat.lt_of_lt_of_le h (Nat.pow_le_pow_right (by decide) hab)
theorem Bd.mul {a b : Nat} {i j : Int} (h : Bd a i) (k : Bd b j) : Bd (a + b) (i * j) := by
  unfold Bd at *
  rw [Int.natAbs_mul, Nat.pow_add]
  exact Nat.mul_lt_mul_of_lt_of_le h (Nat.le_of_lt k) (Nat.pow_pos (by decide))
theorem Bd.add {a b : Nat} {i j : Int} (h : Bd a i) (k : Bd b j) : Bd (a + b + 1) (i + j) := by
  unfold Bd at *
  have h1 : (2 : Nat) ^ a ≤ 2 ^ (a + b) := Nat.pow_le_pow_right (by decide) (by omega)
  have h2 : (2 : Nat) ^ b ≤ 2 ^ (a + b) := Nat.pow_le_pow_right (by decide) (by omega)
  have h3 : (2 : Nat) ^ (a + b + 1) = 2 ^ (a + b) * 2 := Nat.pow_succ ..
  omega
theorem Bd.neg {a : Nat} {i : Int} (h : Bd a i) : Bd a (-i) := by
  unfold Bd at *
  rw [Int.natAbs_neg]
  exact h
theorem Bd.sub {a b : Nat} {i j : Int} (h : Bd a i) (k : Bd b j) : Bd (a + b + 1) (i - j) := by
  rw [Int.sub_eq_add_neg]
  exact h.add k.neg
theorem Bd.le {a : Nat} {i j : Int} (h : Bd a i) (k : j.natAbs ≤ i.natAbs) : Bd a j := Nat.lt_of_le_of_lt k h
theorem Bd.mulOk {a b : Nat} {i j : Int} (h : Bd a i) (k : Bd b j) (h0 : 0 < a) (h1 : 0 < b) (hs : a + b ≤ 1000000) : IntMulOk i j := CMulW.ok (wide_mul h k h0 h1 hs)
theorem Bd.div {b : Nat} {i j : Int} (h : Bd b j) (hp : 0 < j) (h0 : 0 < b) (h9 : b ≤ 9000) : CDivW i j := wide_div hp h h0 h9
/-! ### texts of ints -/
def intL (i : Int) : List Nat := if i < 0 then 45 :: TL.numL i.natAbs else TL.numL i.natAbs
theorem intL_neg {i : Int} (h : i < 0) : intL i = 45 :: TL.numL i.natAbs := if_pos h
theorem intL_nn {i : Int} (h : ¬ i < 0) : intL i = TL.numL i.natAbs := if_neg h
theorem txt_int (i : Int) : Str.ofString (toString i) = S (intL i) := by
  by_cases h : i < 0
  · obtain ⟨n, rfl⟩ : ∃ n : Nat, i = Int.negSucc n := by
      cases i with
      | ofNat n => exact absurd h (by simp)
      | negSucc n => exact ⟨n, rfl⟩
    rw [intL_neg h]
    refine TL.ext_tl ?_
    rw [TL.tl_ofString]
    have e : toString (Int.negSucc n) = "-" ++ toString (n + 1) := rfl
    rw [e, String.toList_append, List.map_append]
    have e2 := TL.tl_num (n + 1)
    rw [TL.tl_ofString] at e2
    have e3 : toString (((n + 1 : Nat)) : Int) = toString (n + 1) := rfl
    rw [e3] at e2
    rw [e2]
    rfl
  · obtain ⟨n, rfl⟩ := Int.eq_ofNat_of_zero_le (Int.not_lt.mp h)
    rw [intL_nn h, num_S, Int.natAbs_natCast]
theorem intL_len {k : Nat} {i : Int} (hk : 0 < k) (h1 : -(10 ^ k) < i) (h2 : i < 10 ^ k) : (intL i).length ≤ k + 1 := by
  have z : ((10 ^ k : Nat) : Int) = (10 : Int) ^ k := by push_cast; rfl
  have hn : i.natAbs < 10 ^ k := by omega
  have l := TL.numL_len hk hn
  unfold intL
  split
  · rw [List.length_cons]
    omega
  · omega
theorem intL_free {i : Int} {s : Nat} (h : s < 48 ∨ 57 < s) (h2 : s ≠ 45) : s ∉ intL i := by
  unfold intL
  split
  · intro z
    rcases List.mem_cons.mp z with z | z
    · exact h2 z
    · exact TL.numL_free h z
  · exact TL.numL_free h
theorem isdig {l : List Nat} (h : PySem.NumText.AllDigits l) (hn : l ≠ []) : Txt.isdigit (S l) = true := by
  unfold Txt.isdigit
  have e1 : decide ((S l).length > 0) = true := decide_eq_true (by rw [S_len]; exact List.length_pos_iff.mpr hn)
  rw [e1, Bool.true_and]
  show (S l).cps.all Unicode.isDigit = true
  rw [← Array.all_toList, List.all_eq_true]
  intro c hc
  have hc2 : c ∈ l := hc
  obtain ⟨a, b⟩ := h c hc2
  have all : ∀ k : Nat, k < 10 → Unicode.isDigit (48 + k) = true := by decide +kernel
  have := all (c - 48) (by omega)
  rwa [show 48 + (c - 48) = c by omega] at this
/-! ### more steps -/
section
variable {K : PySem.W.Frag} {σ : L2.St} {H : Hp} {nx bk ct : L2.St → Hp → Prop} {rt : VK} {ta tb tc te tv tl : TE} {Q : VK} {t u : TS} {g : TG} {tA tk : TA} {c d : TT} {R : Bool → Hp → Prop} {RA : List V → Hp → Prop} {N : L2.St → Hp → Prop} {C : Addr} {sp : Sp} {dvs : List V} {E : XK}
theorem f_str {y : Str} {H : Hp} (q : Q (.str y) H) : ∃ z : Str, V.str y = .str z ∧ Q (.str y) H := ⟨y, rfl, q⟩
theorem eqv_ints : ∀ ns ms : List Int, PyData.eqvAll (ns.map PyData.int) (ms.map PyData.int) = decide (ns = ms)
  | [], [] => by simp [PyData.eqvAll]
  | [], _ :: _ => by simp [PyData.eqvAll]
  | _ :: _, [] => by simp [PyData.eqvAll]
  | n :: ns, m :: ms => by
    rw [List.map_cons, List.map_cons, PyData.eqvAll, eqv_ints ns ms, PyData.eqv]
    by_cases h : n = m
    · subst h
      simp
    · have e : (n == m) = false := by simp [h]
      rw [e]
      simp [h]
theorem lay_ints : ∀ ns : List Int, PyData.canLayAll0 (ns.map PyData.int) = true
  | [] => by simp [PyData.canLayAll0]
  | n :: ns => by rw [List.map_cons, PyData.canLayAll0, lay_ints ns, PyData.canLay0] <;> rfl
theorem dep_ints : ∀ ns : List Int, PyData.depthAll (ns.map PyData.int) ≤ 1
  | [] => by simp [PyData.depthAll]
  | n :: ns => by
    have := dep_ints ns
    rw [List.map_cons, PyData.depthAll, PyData.depth]
    omega
theorem shp_ints (ns : List Int) : SeqAt.shaped (.list (ns.map PyData.int)) = true := by
  unfold SeqAt.shaped
  rw [PyData.canLay0, lay_ints, Bool.true_and, decide_eq_true_eq, PyData.depth]
  have := dep_ints ns
  omega
end
end My
namespace My
open PySem PySem.Spec PyProof.Rows L2
end My

/-! ### readings whose Frag is written out: within a comprehension's block, too -/
namespace My
open PySem PySem.Spec PyProof.Rows L2
section
variable {K : PySem.W.Frag} {X : Cx}
theorem call_lenK (h : X.K = K) : CallR X (.builtin "len") (fun xs H Q => ∃ p ys, xs = [.ref p] ∧ (SqL K H p ys ∨ SqT K H p ys) ∧ Q (.int ys.length) H) := by subst h; exact call_len_seq
theorem call_listK (h : X.K = K) : CallR X (.type "list") (fun xs H Q => ∃ p ys, xs = [.ref p] ∧ (SqL K H p ys ∨ SqT K H p ys) ∧ ∀ l, H l = none → Q (.ref l) (upd H l (.lst ys))) := by subst h; exact call_list_of
theorem call_tupleK (h : X.K = K) : CallR X (.type "tuple") (fun xs H Q => ∃ p ys, xs = [.ref p] ∧ ((SqL K H p ys ∧ ∀ l, H l = none → Q (.ref l) (upd H l (.tup ys))) ∨ (SqT K H p ys ∧ Q (.ref p) H))) := by subst h; exact call_tuple_of
theorem ix_listK (h : X.K = K) : IxR X (rIxL K) := by subst h; exact ix_list
theorem ix_tupK (h : X.K = K) : IxR X (rIxT K) := by subst h; exact ix_tup
theorem sl_listK (h : X.K = K) : SlR X (rSlL K) := by subst h; exact sl_list
theorem op_neDK (h : X.K = K) (hu : X.A.units + 64 < cLine) : OpR X (compareOp .NotEq) (rNeD K) := by subst h; exact op_neD hu
end
end My

set_option Elab.async false
set_option linter.all false
set_option maxRecDepth 100000
set_option maxHeartbeats 8000000
/-! LayG: operators of own classes, also with ints on either side -/
namespace My
open PySem PySem.Spec PyProof.Rows L2 He
section
variable (a : Int) (t : Tok) (l C dx : Addr)
end
/-- an operator of int that declines an instance of an own class -/
structure DecB (op : Operator) : Prop where
  ex : ∃ (id : String) (B : Builtin), Slot "int" (PySem.dunder op.info.2) id ∧ fillsNumberSlot (.type "int") op.info.2 = pure true ∧ entryFor table id = some B ∧ (∀ (a : Int) (t : Tok) (l : Addr), argsOk id ⟨[.int a t, .ref l], []⟩) ∧
    ∀ (a : Int) (t : Tok) (l C dx : Addr), Meets (B ⟨[.int a t, .ref l], []⟩) (fun _ R s => s.heap.get? l = some (PySem.W.instObj C dx) ∧ R (.ok (.ret Value.notImplemented)) s)
structure DecC (op : CmpOp) : Prop where
  ex : ∃ (id : String) (B : Builtin), Slot "int" (cmpInfo op).2.1 id ∧ entryFor table id = some B ∧ (∀ (a : Int) (t : Tok) (l : Addr), argsOk id ⟨[.int a t, .ref l], []⟩) ∧
    ∀ (a : Int) (t : Tok) (l C dx : Addr), Meets (B ⟨[.int a t, .ref l], []⟩) (fun _ R s => s.heap.get? l = some (PySem.W.instObj C dx) ∧ R (.ok (.ret Value.notImplemented)) s)
/-! the rules -/
namespace Own
open PySem.W PySem.Calls
section
variable {prog : Program} {w : World} {A : Around} {E : Value → Shared → Prop} {s : Shared} {K : Frag} {x C L f fd dx : Addr} {h₀ : Heap} {m : Str → Option Value} {ox : Obj} {od : Option Obj}
end
end Own
/-! the readings -/
structure OwOk (K : PySem.W.Frag) (C : Addr) : Prop where
  first : PySem.W.selfFirst K C = true
  sub1 : PySem.W.subIn K (.type "int") (.ref C) = some false
  sub2 : PySem.W.subIn K (.ref C) (.type "int") = some false
  fi : ∀ n ∈ ([PySem.dunder "add", PySem.dunder "sub", PySem.dunder "mul", dunderR "add", dunderR "sub", dunderR "mul"] : List Str), ∃ fo, PySem.W.findIn K (.type "int") n = some fo
section
variable {X : Cx} {k j : Nat} {f g C : Addr} {ps qs : List Str} {sp : Sp} {n m : Str}
theorem back {pins : List (Addr × Obj)} {σ : L2.St} {Q : VK} {v : Value} {s' : Shared} (z : EP X pins σ Q v s') : PySem.W.CmpBack (EP X pins σ Q) v s' := by
  obtain ⟨z', H', I', rz, qz⟩ := z
  exact SlX.cmpback rz ⟨z', H', I', rz, qz⟩
end
section
variable {K : PySem.W.Frag} {C : Addr} {sp : Sp} {H : Hp} {Q : VK}
end
end My

set_option Elab.async false
set_option linter.all false
set_option maxRecDepth 100000
set_option maxHeartbeats 8000000
/-! LayH: != of a class with its own __eq__ -/
namespace My
open PySem PySem.Spec PyProof.Rows L2 He
namespace Own
open PySem.W PySem.Calls
section
variable {prog : Program} {w : World} {A : Around} {E : Value → Shared → Prop} {s : Shared} {K : Frag} {x C L f : Addr} {h₀ : Heap} {m : Str → Option Value} {ox : Obj} {od : Option Obj} {b tb : Value}
end
end Own
/-! the readings -/
structure NeOk (K : PySem.W.Frag) (C : Addr) : Prop where
  ne : PySem.W.findIn K (.ref C) "__ne__" = some (some (.builtin "object.__ne__"))
  ob : PySem.W.subIn K (.ref C) (.type "object") = some true
section
variable {X : Cx} {k j : Nat} {f C : Addr} {ps : List Str} {sp : Sp}
/-- one of three readings of an operator -/
def r3 (r1 r2 r3 : R2) : R2 := fun x y H Q => r1 x y H Q ∨ r2 x y H Q ∨ r3 x y H Q
end
end My

set_option Elab.async false
set_option linter.all false
set_option maxRecDepth 100000
set_option maxHeartbeats 8000000
/-! LayI: other kinds of values beside an instance of an own class -/
namespace My
open PySem PySem.Spec PyProof.Rows L2 He
section
variable (l C dx : Addr)
end
/-! the rule: v == own, v declines -/
namespace Own
open PySem.W PySem.Calls
section
variable {prog : Program} {w : World} {A : Around} {E : Value → Shared → Prop} {s : Shared} {K : Frag} {x C L f : Addr} {h₀ : Heap} {m : Str → Option Value} {ox : Obj} {od : Option Obj} {v : Value} {T id : String}
end
end Own
/-! kinds of values -/
inductive Kd (H : Hp) : V → String → Prop where
  | bl (b : Bool) : Kd H (.bl b) "bool"
  | non : Kd H .non "NoneType"
  | str (x : Str) : Kd H (.str x) "str"
  | lst {a : Addr} {xs : List V} (e : H a = some (.lst xs)) : Kd H (.ref a) "list"
  | tup {a : Addr} {xs : List V} (e : H a = some (.tup xs)) : Kd H (.ref a) "tuple"
  | dct {a : Addr} {kvs : List (Key × V)} (e : H a = some (.dK kvs)) : Kd H (.ref a) "dict"
theorem Kd.ty {K : PySem.W.Frag} {H : Hp} {x : V} {T : String} (k : Kd H x T) : TyX K H x (.type T) := by
  cases k with
  | bl b => exact .base (.bl b)
  | non => exact .base .non
  | str x => exact .base (.str x)
  | lst e => exact .base (.lst e)
  | tup e => exact .base (.tup e)
  | dct e => exact .base (.dK e)
def kinds : List String := ["bool", "NoneType", "str", "list", "tuple", "dict"]
theorem Kd.mem {H : Hp} {x : V} {T : String} (k : Kd H x T) : T ∈ kinds := by cases k <;> decide
section
variable {X : Cx} {pins : List (Addr × Obj)} {σ : L2.St} {H : Hp} {s : Shared}
end
/-! the readings -/
structure KdOk (K : PySem.W.Frag) (C : Addr) : Prop where
  one : ∀ T ∈ kinds, PySem.W.subIn K (.ref C) (.type T) = some false
  two : ∀ T ∈ kinds, PySem.W.subIn K (.type T) (.ref C) = some false
section
variable {X : Cx} {k j : Nat} {f C : Addr} {ps : List Str} {sp : Sp}
end
end My

set_option Elab.async false
set_option linter.all false
set_option maxRecDepth 100000
set_option maxHeartbeats 8000000
/-! LayJ: comprehensions by what they gather, append, pop, reversed ranges and slices -/
namespace My
open PySem PySem.Builtin PySem.Builtin.Str PySem.Spec PyProof.Rows L2 SX
theorem tupS {K : PySem.W.Frag} {H H' : Hp} {a : Addr} {xs : List V} (h : SqT K H a xs) (e : Same H H') : SqT K H' a xs :=
  h.elim (fun h => .inl (h.elim (fun h => .inl (e _ _ h)) fun ⟨o, h⟩ => .inr ⟨o, e _ _ h⟩)) fun h => .inr h
section
variable {K : PySem.W.Frag} {σ : L2.St} {H : Hp} {nx bk ct : L2.St → Hp → Prop} {rt : VK} {ta tb tc te tv tl : TE} {Q : VK} {g : TG} {tA : TA} {tt : TT} {vs : List Nat} {ts : TS}
end
end My

set_option Elab.async false
set_option linter.all false
set_option maxRecDepth 100000
set_option maxHeartbeats 8000000
/-! LayK0: own error classes over ValueError, LookupError or ArithmeticError: made, their fields set -/
namespace My
open PySem PySem.Spec PyProof.Rows L2 He
/-! ### the classes above -/
/-- own classes, then the list tl -/
def ownThen (tl : List Value) : List Value → Bool
  | .ref _ :: r => ownThen tl r
  | l => l == tl
theorem ownThen_two {tl : List Value} {l : List Value} (e : ownThen tl l = true) : (∃ c r, l = .ref c :: r ∧ ownThen tl r = true) ∨ l = tl := by
  unfold ownThen at e
  split at e
  · exact .inl ⟨_, _, rfl, e⟩
  · exact .inr (eq_of_beq e)
theorem ownThen_in {tl : List Value} (B : String) : ∀ l : List Value, ownThen tl l = true → l.contains (.type B) = tl.contains (.type B)
  | [], e => by
    rcases ownThen_two e with ⟨c, r, q, _⟩ | q
    · cases q
    · rw [q]
  | a :: r, e => by
    rcases ownThen_two e with ⟨c, r2, q, h⟩ | q
    · obtain ⟨e1, e2⟩ := List.cons.inj q
      subst e1 e2
      have hc : (Value.ref c :: r).contains (.type B) = r.contains (.type B) := by rw [List.contains_cons] <;> rfl
      exact hc.trans (ownThen_in B r h)
    · rw [q]
theorem ownThen_pass {tl : List Value} (p : ∀ v : Value, refuseLoop v "__setattr__" tl = pure ()) (v : Value) : ∀ l : List Value, ownThen tl l = true → refuseLoop v "__setattr__" l = pure ()
  | [], e => by
    rcases ownThen_two e with ⟨c, r, q, _⟩ | q
    · cases q
    · rw [q]; exact p v
  | a :: r, e => by
    rcases ownThen_two e with ⟨c, r2, q, h⟩ | q
    · obtain ⟨e1, e2⟩ := List.cons.inj q
      subst e1 e2
      rw [refuseLoop_ref]
      exact ownThen_pass p v r h
    · rw [q]; exact p v
def tailOf (B : String) : List Value := [.type B, .type "Exception", .type "BaseException", .type "object"]
/-- what is asked of the classes bm above an own error class whose instances `new` makes -/
structure Above (bm : List Value) (new : String) : Prop where
  how : ∃ (B ini : String) (tl : List Value), ExcBaseFacts B new ini tl ∧ ∀ Y : String, bm.contains (.type Y) = tl.contains (.type Y)
  pass : ∀ v : Value, refuseLoop v "__setattr__" bm = pure ()
  ob : bm.contains (.type "object") = true
theorem above_of {B new ini : String} {bm : List Value} {sa ow : String} (F : ExcBaseFacts B new ini (tailOf B)) (S : StoreFacts B (tailOf B) sa ow) (h : ownThen (tailOf B) bm = true) : Above bm new :=
  ⟨⟨B, ini, tailOf B, F, fun Y => ownThen_in Y bm h⟩, fun v => ownThen_pass S.passes v bm h, (ownThen_in "object" bm h).trans (by
    unfold tailOf
    simp)⟩
def aboveB (bm : List Value) (new : String) : Bool :=
  (new == "ValueError.__new__" && ownThen (tailOf "ValueError") bm) || ((new == "LookupError.__new__" && ownThen (tailOf "LookupError") bm) || (new == "ArithmeticError.__new__" && ownThen (tailOf "ArithmeticError") bm))
theorem aboveB_ok {bm : List Value} {new : String} (h : aboveB bm new = true) : Above bm new := by
  unfold aboveB at h
  rcases Bool.or_eq_true_iff.mp h with h | h
  · obtain ⟨e, h⟩ := ba h
    obtain rfl := eq_of_beq e
    exact above_of F.excBase_ValueError F.store_ValueError h
  · rcases Bool.or_eq_true_iff.mp h with h | h
    · obtain ⟨e, h⟩ := ba h
      obtain rfl := eq_of_beq e
      exact above_of F.excBase_LookupError F.store_LookupError h
    · obtain ⟨e, h⟩ := ba h
      obtain rfl := eq_of_beq e
      exact above_of F.excBase_ArithmeticError F.store_ArithmeticError h
/-- what the written part says of an own error class -/
structure OexG (K : PySem.W.Frag) (C : Addr) : Prop where
  cls : ∃ nm qn N bs bm sn sub ab col dd k0 k1 k2 k3 k5 new, K.lookup C = some (excClassObj nm qn C N bs bm true sn sub ab col dd k0 k1 k2 k3 k5 new) ∧ Above bm new
  sa : PySem.W.findIn K (.ref C) "__setattr__" = some (some (.builtin "object.__setattr__"))
  exC : PySem.W.subIn K (.ref C) (.type "BaseException") = some true
  tyC : PySem.W.typeIn K (.ref C) = some (.type "type")
  kC : PySem.W.keepIn K (.ref C) = true
/-! ### a field is set -/
section
variable {prog : Program} {w : World} {A : Around} {R : Result → Shared → Prop} {hp : Heap} {g : Array GenState} {dw : Drawn} {tk0 : Nat} {os : OsState} {K : PySem.W.Frag} {name : Str} {tk : Tok} {v : Value} {x C dx : Addr} {fv : Array Value} {cd : ClassData}
open Builtin Builtin.ObjectAttr PySem.W
end
/-! ### over the abstract heap -/
section
variable {X : Cx} {pins : List (Addr × Obj)} {σ : L2.St} {H : Hp} {s : Shared} {a C dx : Addr} {f : Str} {y : V} {u : Value} {fs : List (Str × V)} {Q : Unit → Shared → Prop} {E : Value → Shared → Prop} {A : Around}
variable {e o : Expr} {te to : TE} {p' pos : Pos}
end
/-! ### C(e, ..) -/
section
variable {X : Cx} {e : Expr} {es : List Expr} {ta : TA} {p pos : Pos}
end
end My

set_option Elab.async false
set_option linter.all false
set_option maxRecDepth 100000
set_option maxHeartbeats 8000000
/-! LayK: own error classes whose __init__ sets one field: raised, passed on, caught by name, their class asked, their field read -/
namespace My
open PySem PySem.Spec PyProof.Rows L2 He
theorem decT {p : Prop} [Decidable p] (h : decide p = true) : p := of_decide_eq_true h
/-- the class object of an own error -/
def oexB (K : PySem.W.Frag) (C : Addr) : Bool := match K.lookup C with
  | some ⟨.type "type", _, .cls c, sl⟩ => (match c.mro, sl.toList with
    | .ref C2 :: bm, [_, _, _, _, some (.builtin n), _] => C2 == C && (aboveB bm n && (c.hasDict && !c.hasDel))
    | _, _ => false)
  | _ => false
theorem oexB_ok {K : PySem.W.Frag} {C : Addr} (q : oexB K C = true) : ∃ nm qn N bs bm sn sub ab col dd k0 k1 k2 k3 k5 new, K.lookup C = some (excClassObj nm qn C N bs bm true sn sub ab col dd k0 k1 k2 k3 k5 new) ∧ Above bm new := by
  unfold oexB at q
  split at q
  · rename_i dd c sl ho
    split at q
    · rename_i C2 bm k0 k1 k2 k3 n k5 em es
      obtain ⟨e1, q⟩ := ba q
      obtain ⟨e2, q⟩ := ba q
      obtain ⟨e3, e4⟩ := ba q
      have e1 := eq_of_beq e1
      subst e1
      obtain ⟨f1, f2, f3, f4, f5, f6, f7, f8, f9, f10, f11⟩ := c
      dsimp only at em e3 e4
      cases f11 with
      | true => cases e4
      | false =>
        subst em e3
        have esl : sl = #[k0, k1, k2, k3, some (.builtin n), k5] := by
          cases sl
          simp only at es
          rw [es]
        rw [esl] at ho
        exact ⟨_, _, _, _, _, _, _, _, _, _, _, _, _, _, _, _, ho, aboveB_ok e2⟩
    · cases q
  · cases q
/-- all that is asked of an own error class x with an __init__ of its own -/
structure ErrOk (K : PySem.W.Frag) (C f : Addr) : Prop where
  ox : OexG K C
  iC : PySem.W.findIn K (.ref C) "__init__" = some (some (.ref f))
  tI : PySem.W.typeIn K (.ref f) = some (.type "function")
  xf : XfC K C
  cl : (PySem.W.clsIn K C).isSome = true
  ca : PySem.W.findIn K (.ref C) "__class__" = some (some (.builtin "object.__class__"))
  hn : PySem.W.specialIn K (.builtin "object.__class__") "__get__" = some (some (.builtin "getset_descriptor.__get__"))
  tk : PySem.W.takesIn K (.builtin "object.__class__") = some true
  mo : PySem.W.mroIn K C (.type "object") = some true
def errB (K : PySem.W.Frag) (x : Str) : Bool := oexB K (ga K x) && (eqO (PySem.W.findIn K (.ref (ga K x)) "__setattr__") (some (some (.builtin "object.__setattr__"))) && (decide (PySem.W.typeIn K (.ref (ga K x)) = some (.type "type")) && (PySem.W.keepIn K (.ref (ga K x)) &&
  (eqO (PySem.W.findIn K (.ref (ga K x)) "__init__") (some (some (.ref (ma K (ga K x) "__init__")))) && (decide (PySem.W.typeIn K (.ref (ma K (ga K x) "__init__")) = some (.type "function")) && (xfB K (ga K x) && ((PySem.W.clsIn K (ga K x)).isSome &&
  (eqO (PySem.W.findIn K (.ref (ga K x)) "__class__") (some (some (.builtin "object.__class__"))) && (eqO (PySem.W.specialIn K (.builtin "object.__class__") "__get__") (some (some (.builtin "getset_descriptor.__get__"))) &&
  (decide (PySem.W.takesIn K (.builtin "object.__class__") = some true) && decide (PySem.W.mroIn K (ga K x) (.type "object") = some true)))))))))))
theorem errB_ok {K : PySem.W.Frag} {x : Str} (h : errB K x = true) : ErrOk K (ga K x) (ma K (ga K x) "__init__") := by
  obtain ⟨h1, h⟩ := ba h
  obtain ⟨h2, h⟩ := ba h
  obtain ⟨h3, h⟩ := ba h
  obtain ⟨h4, h⟩ := ba h
  obtain ⟨h5, h⟩ := ba h
  obtain ⟨h6, h⟩ := ba h
  obtain ⟨h7, h⟩ := ba h
  obtain ⟨h8, h⟩ := ba h
  obtain ⟨h9, h⟩ := ba h
  obtain ⟨h10, h⟩ := ba h
  obtain ⟨h11, h12⟩ := ba h
  have xf := xfB_ok h7
  exact ⟨⟨oexB_ok h1, eqO_ok h2, xf.exC, decT h3, h4⟩, eqO_ok h5, decT h6, xf, h8, eqO_ok h9, eqO_ok h10, decT h11, decT h12⟩
def noB (K : PySem.W.Frag) (x f : Str) : Bool := eqO (PySem.W.findIn K (.ref (ga K x)) f) (some none)
theorem noB_ok {K : PySem.W.Frag} {x f : Str} (h : noB K x f = true) : PySem.W.findIn K (.ref (ga K x)) f = some none := eqO_ok h
/-! ### the making -/
section
variable {P : Program} {w : World} {K : PySem.W.Frag} {mg : Str → Option Value} {base : Heap} {x qual : Str} {params : Arguments} {body : List Stmt} {scope : Scope} {dvs : List V} {kws : List (Str × V)} {f : Addr} {fd : FuncData} {N ps : List Str} {k : Nat} {sp : Sp}
end
section
variable {X : Cx} {x : Str} {C g : Addr} {k : Nat} {fd : FuncData} {ps : List Str} {f : Str} {W : WX} {e : Expr} {es : List Expr} {ta : TA} {p pos pos' : Pos}
end
/-! ### calls that may raise -/
section
variable {X : Cx} {CX : CXT} {k j : Nat} {f C : Addr} {x : Str} {ps : List Str} {dvs : List V} {sp : Sp} {E : L2.St → XK} {e : Expr} {es : List Expr} {p pos : Pos} {t : TA}
end
/-! ### in an except suite -/
section
variable {X : Cx} {a : Addr} {oe : Obj} {cls : Value} {d : Option Addr} {pn : List (Addr × Obj)}
end
end My

set_option Elab.async false
set_option linter.all false
set_option maxRecDepth 100000
set_option maxHeartbeats 8000000
/-! LayL: repr of a thing of any plain kind -/
namespace My
open PySem PySem.Spec PyProof.Rows L2
def dkI (ps : List (Int × Int)) : List (Key × V) := ps.map fun p => (.inl p.1, .int p.2)
def ddI (ps : List (Int × Int)) : List (PyData × PyData) := ps.map fun p => (.int p.1, .int p.2)
/-- a value and the data that it is: none, truth values, ints, texts, lists and tuples of such, dicts of ints -/
inductive DpT (K : PySem.W.Frag) (H : Hp) : V → PyData → Prop
  | pl {x : V} {d : PyData} (h : Dp K H x d) (n : d.hasDict = false) : DpT K H x d
  | dct {a : Addr} {ps : List (Int × Int)} (h : H a = some (.dK (dkI ps))) : DpT K H (.ref a) (.dict (ddI ps))
section
variable {X : Cx} {pins : List (Addr × Obj)} {σ : L2.St} {H : Hp} {s : Shared}
theorem kv_reads {P : Program} {w : World} {h : Heap} : ∀ {ps : List (Int × Int)} {es : List DictEntry} {vs : List (Key × Value)}, KV (dkI ps) vs → Pairs (mixKind P w) es vs → ReadsAll h (es.map (·.key)) ((ddI ps).map (·.1)) [] ∧ ReadsAll h (es.map (·.val)) ((ddI ps).map (·.2)) []
  | [], es, vs, r, q => by
    cases r
    cases q
    exact ⟨.nil, .nil⟩
  | p :: ps, es, vs, r, q => by
    cases r with
    | cons r1 r2 =>
      cases q with
      | @cons en _ _ _ q1 q2 q3 =>
        obtain ⟨z1, z2⟩ := kv_reads r2 q3
        obtain ⟨k1, k2⟩ := r1
        dsimp only at k1 k2
        rw [← k1] at q1
        rcases keyIs_shape (show keyIs (Sum.inl p.1) _ = true from q1) with ⟨i, t, e1, e2⟩ | ⟨y, t, e1, e2⟩
        · cases e1
          obtain ⟨t2, e3⟩ := k2
          have g1 : Reads h en.key (.int p.1) [] := by
            rw [e2]
            exact .int _ _
          have g2 : Reads h en.val (.int p.2) [] := by
            rw [q2, e3]
            exact .int _ _
          exact ⟨ReadsAll.cons (as := []) (bs := []) g1 z1, ReadsAll.cons (as := []) (bs := []) g2 z2⟩
        · cases e1
theorem dict_reads (I : Inv X pins σ H s) {a : Addr} {ps : List (Int × Int)} (h : H a = some (.dK (dkI ps))) : Reads s.heap (.ref a) (.dict (ddI ps)) [a] ∧ a ≠ sysModules := by
  obtain ⟨_, hn, vs, rel, o, es, ep, h1, h2, h3, _, h5, _⟩ := dk_of I.hok h
  obtain ⟨z1, z2⟩ := kv_reads (h := s.heap) rel h5
  refine ⟨Reads.dict (as := []) (bs := []) h1 h2.1 h3 z1 z2, fun e => ?_⟩
  rw [e, beq_self_eq_true] at hn
  cases hn
/-- repr of such a thing -/
def rReprT (K : PySem.W.Frag) : List V → Hp → VK → Prop := fun xs H Q => ∃ x d, xs = [x] ∧ DpT K H x d ∧ d.showable = true ∧ d.depth ≤ 50 ∧ d.shown.length ≤ sizeLine ∧ Q (.str d.shown) H
end
/-- a thing whose repr may be asked -/
def Thg (K : PySem.W.Frag) (H : Hp) (x : V) (d : PyData) : Prop := DpT K H x d ∧ d.showable = true ∧ d.depth ≤ 50 ∧ d.shown.length ≤ sizeLine
theorem Thg.q {K : PySem.W.Frag} {H : Hp} {x : V} {d : PyData} {Q : VK} (h : Thg K H x d) (q : Q (.str d.shown) H) : rReprT K [x] H Q := ⟨x, d, rfl, h.1, h.2.1, h.2.2.1, h.2.2.2, q⟩
mutual
theorem dp_same {K : PySem.W.Frag} {H H' : Hp} (s : Same H H') : ∀ {d : PyData} {x : V}, Dp K H x d → Dp K H' x d
  | _, _, .non => .non
  | _, _, .bl b => .bl b
  | _, _, .int i => .int i
  | _, _, .str x => .str x
  | _, _, .lst h k => .lst (s.seq h) (dpAll_same s k)
  | _, _, .tup h k => .tup (tupS h s) (dpAll_same s k)
theorem dpAll_same {K : PySem.W.Frag} {H H' : Hp} (s : Same H H') : ∀ {ds : List PyData} {xs : List V}, DpAll K H xs ds → DpAll K H' xs ds
  | _, _, .nil => .nil
  | _, _, .cons h k => .cons (dp_same s h) (dpAll_same s k)
end
/-- a def without defaults, called by names -/
theorem kb0 {K : PySem.W.Frag} {x qual : Str} {params : Arguments} {body : List Stmt} {scope : Scope} {kws : List (Str × V)} {f : Addr} {fd : FuncData} {ps : List Str} (F : FunD K x qual params body scope [] kws f fd) (n : Nat) (ks : List Str) (g : {α : Type} → List α → List α → List α)
    (rl : ∀ {vs zs : List V} {us ws : List Value}, Vals vs us → Vals zs ws → Vals (g vs zs) (g us ws))
    (h : ∀ (kV doc pm : Value) (an : Option Addr) (cdv ct : Value) (us ws : List Value), us.length = n → ws.length = ks.length → bindArgs (PySem.W.fnOf x qual params body scope .none kV doc pm an cdv ct) ⟨us, ks.zip ws⟩ = pure (ps.zip (g us ws))) :
    KBn K fd ps n ks (fun us ws => g us ws) (fun vs zs => g vs zs) := by
  obtain ⟨_, _, _, kV, doc, pm, an, cdv, ct, _, rfl, _, _, hD, _⟩ := F.ex
  rcases hD with ⟨_, rfl⟩ | ⟨e, _⟩
  · exact ⟨fun s us ws _ l1 l2 => .of_eq (h kV doc pm an cdv ct us ws l1 l2), fun r1 r2 => rl r1 r2⟩
  · exact absurd rfl e
section
variable {σ : L2.St} {H : Hp} {D : Ends} {Q : VK} {tA : TA} {C : Addr} {f : Str} {W : WX} {sp : Sp} {E : L2.St → XK}
end
end My

set_option Elab.async false
set_option linter.all false
set_option maxRecDepth 100000
set_option maxHeartbeats 8000000
/-! LayM: a caught error handed to a def, from within the except suite -/
namespace My
open PySem PySem.Spec PyProof.Rows L2 He
/-- a promise that may tell of the error that is handled -/
abbrev SpQ : Type := (Addr × Obj) → Sp
/-- the def fd at f keeps its promise where the error p is handled -/
structure FnQ (P : Program) (w : World) (K : PySem.W.Frag) (mg : Str → Option Value) (base : Heap) (k : Nat) (f : Addr) (fd : FuncData) (ps : List Str) (sp : SpQ) : Prop where
  len : ∀ p vs H Q E, sp p vs H Q E → vs.length = ps.length
  run : ∀ (A : Around) (outer : List Env) (s : Shared) (H : Hp) (args : Args) (us : List Value) (vs : List V) (Q : VK) (p : Addr × Obj), L2H.RoomH k A → L2H.PinOk outer H s p → Env0 P w K mg base A outer s H → BindsTo s fd args (ps.zip us) → Vals vs us → sp p vs H Q E0 →
    codeAny (model P w) A (.call (.ref f) args) (CR CX0 outer P w H s Q E0) s
section
variable {P : Program} {w : World} {K : PySem.W.Frag} {mg : Str → Option Value} {base : Heap} {x qual : Str} {params : Arguments} {body : List Stmt} {scope : Scope} {dvs : List V} {kws : List (Str × V)} {f : Addr} {fd : FuncData} {N ps : List Str} {k : Nat} {sp : SpQ}
theorem _root_.L2H.RoomH.units {k : Nat} {A : Around} (r : L2H.RoomH k A) : A.units + 64 < cLine := by
  have := r.un
  omega
end
section
variable {X : Cx} {k : Nat} {f a : Addr} {oe : Obj} {fd : FuncData} {ps : List Str} {sp : SpQ} {x : Str} {p pos : Pos} {e : Expr} {es : List Expr} {t : TA} {pn : List (Addr × Obj)}
end
/-! in the body of such a def -/
section
variable {P : Program} {w : World} {K : PySem.W.Frag} {mg : Str → Option Value} {base : Heap} {N : List Str} {qual : Str} {scope : Scope} {f : Addr} {cdv : Value} {A : Around} {outer : List Env} {s : Shared} {H0 : Hp} {p : Addr × Obj}
end
end My

set_option Elab.async false
set_option linter.all false
set_option maxRecDepth 100000
set_option maxHeartbeats 8000000
/-! LayN: try: body, except (C1, C2, C3) as e: suite, where every error of the body is one of the three -/
namespace My
open PySem PySem.Spec PyProof.Rows L2 He
open PySem.HandSPX
/-- what flies goes on flying over an object more -/
theorem fly_push {B h : Heap} {l : List Env} {a : Addr} {Z : Obj → Prop} (o : Obj) (x : FlyingZ B l a Z h) : FlyingZ B l a Z (h.push o) := by
  have k : ∀ {b u}, h.get? b = some u → (h.push o).get? b = some u := fun e => Heap.get?_push_of_some _ e
  obtain ⟨x1, x2, x3, oe, vs, T, oT, ts, e1, e2, e3, e4, e5, e6, e7, e8, e9⟩ := x
  exact ⟨fun b u e => k (x1 b u e), x2, x3.of_keeps fun b u e _ => ⟨u, k e, rfl⟩, oe, vs, T, oT, ts, k e1, e2, e3, e4, e5, e6, k e7, e8, e9⟩
section
variable {X : Cx} {x1 x2 x3 n : Str} {C1 C2 C3 : Addr} {i : Nat} {body suite : List Stmt} {b₀ : Stmt} {p1 p2 p3 tp pos pos' : Pos} {kk : Nat} {tb : WX → TS} {ts : Addr → Value → Option Addr → TS}
/-- the three classes, loaded in a suite -/
theorem load3 {A : Around} {s : Shared} {Q E : Value → Shared → Prop} (h : ∀ {x : Str} {C : Addr} {p : Pos} {Q2 : Value → Shared → Prop}, (x, C) ∈ [(x1, C1), (x2, C2), (x3, C3)] → Q2 (.ref C) s → wpAny (model X.prog X.w) A (eval (.Name x p) X.env) Q2 E s)
    (q : Q (.ref s.heap.objs.size) { s with heap := s.heap.push { cls := .type "tuple", data := .seq [.ref C1, .ref C2, .ref C3].toArray } }) :
    wpAny (model X.prog X.w) A (eval (.Tuple [.Name x1 p1, .Name x2 p2, .Name x3 p3] kk tp) X.env) Q E s := by
  refine wpAny_Tuple ?_
  show wpAny _ _ (spliced ((false, eval (.Name x1 p1) X.env) :: (false, eval (.Name x2 p2) X.env) :: (false, eval (.Name x3 p3) X.env) :: [])) _ _ _
  refine Calls.spliced_cons (h (C := C1) (by simp) (Calls.spliced_cons (h (C := C2) (by simp) (Calls.spliced_cons (h (C := C3) (by simp) (Calls.spliced_nil ⟨?_, q⟩))))))
  show 3 ≤ sizeLine
  rw [sizeLine_eq]
  decide
end
end My

set_option Elab.async false
set_option linter.all false
set_option maxRecDepth 100000
set_option maxHeartbeats 8000000
/-! LayO: x(lambda: body), where it is known that no repr is under way -/
namespace My
open PySem PySem.Spec PyProof.Rows L2 He LamX
section
variable {X : Cx} {pins : List (Addr × Obj)} {σ : L2.St} {H : Hp} {s : Shared} {k i : Nat} {g f c' : Addr} {params : Arguments} {body : Expr} {scope sg : Scope} {qg a : Str} {cdg pm ctv : Value} {Ng : List Str} {E : XK} {tb : TE} {pn : List (Addr × Obj)} {xe : Value → Shared → Prop} {W : WX} {p1 p2 : Pos}
end
section
variable {X : Cx} {k : Nat} {g c P : Addr} {params pg : Arguments} {body : Expr} {scope sg : Scope} {bg : List Stmt} {x a : Str} {kws : List (Str × V)} {fd : FuncData} {Ng : List Str} {T : List (Addr × Str)} {TT : (XK → Hp → VK → Prop) → Hp → VK → Prop} {t : XK → TE} {p lpos pos : Pos}
end
end My

set_option Elab.async false
set_option linter.all false
set_option maxRecDepth 100000
set_option maxHeartbeats 8000000
/-! LayP: the law's end where defs make lambdas: tables of code objects are tracked -/
namespace My
open PySem PySem.Spec PyProof.Rows L2 LamX
/-- a code object at p.1 with its empty table at p.2, outside of K -/
structure Tbl0 (K : PySem.W.Frag) (h : Heap) (p : Addr × Addr) : Prop where
  code : PySem.W.CodeHd h p.1 p.2
  tab : h.get? p.2 = some { cls := .none, data := .fields #[] }
  out : K.lookup p.2 = none
/-- what is tracked at the start: the script, perhaps, and the tables -/
structure Start (cs : List (Addr × Addr)) (H : Hp) (a : Addr) : Prop where
  tabs : ∀ p ∈ cs, H p.2 = some (.tbl #[])
  only : ∀ b, H b = none ∨ (∃ p ∈ cs, b = p.2) ∨ (b = a ∧ ∃ o xs, H b = some (.frz o (.lst xs)))
section
variable {P : Program} {w : World} {K : PySem.W.Frag} {mg mb : Str → Option Value} {k : Nat} {fa a : Addr} {fd : FuncData} {x : Str} {sp : Sp} {t : Shared} {vs : List Value} {ns : List Int} {H : Hp} {cs : List (Addr × Addr)}
end
end My

set_option Elab.async false
set_option linter.all false
set_option maxRecDepth 100000
set_option maxHeartbeats 8000000
/-! LayQ: the hook and the law's end where some defs' tables of code objects are tracked; repr of a list that holds a dict -/
namespace Hk
open PySem PySem.Spec PyProof.Rows L2 He
/-- the object at sysModules is a dict -/
def smB (K : PySem.W.Frag) : Bool := match K.lookup sysModules with
  | some ⟨.type c, _, _, _⟩ => decide (c = "dict")
  | _ => false
structure SaysF (fa : List Fa) (fn : List DefE) (tf : List Defn) (ex : PySem.W.Frag → Bool) (h : Heap) (K : PySem.W.Frag) : Prop where
  c : SaysE fa fn ex K
  sm : smB K = true
  hd : ∀ p ∈ tf, PySem.W.codeHdIn K (cT K p).1 (cT K p).2 = true
  out : ∀ p ∈ tf, K.lookup (cT K p).2 = none
  empty : ∀ p ∈ tf, h.get? (cT K p).2 = some { cls := .none, data := .fields #[] }
end Hk
namespace My
open PySem PySem.Spec PyProof.Rows L2 He LamX
section
variable {P : Program} {w : World} {K : PySem.W.Frag} {mg : Str → Option Value} {base : Heap} {k : Nat} {x qual : Str} {params : Arguments} {body : List Stmt} {scope : Scope} {dvs : List V} {kws : List (Str × V)} {fd : FuncData} {N ps : List Str} {sp : Sp} {CX : CXT}
end
end My

set_option Elab.async false
set_option linter.all false
set_option maxRecDepth 100000
set_option maxHeartbeats 8000000
/-! LayR: repr of a pair of a text and a dict; what stays while lambdas are made -/
namespace My
open PySem PySem.Spec PyProof.Rows L2 LamX
/-! ### what stays -/
section
variable {K : PySem.W.Frag} {H H' : Hp}
theorem rdE {a : Addr} {u : HO} (s : ExtN H H') (h : Rd H a u) (n : ∀ ps, u ≠ .tbl ps) : Rd H' a u := h.elim (fun e => .inl (s _ _ e n)) fun ⟨o, e⟩ => .inr ⟨o, s _ _ e fun _ z => nomatch z⟩
theorem sqE {a : Addr} {xs : List V} (h : SqL K H a xs) (s : ExtN H H') : SqL K H' a xs := h.elim (fun e => .inl (rdE s e fun _ z => nomatch z)) .inr
theorem tupE {a : Addr} {xs : List V} (h : SqT K H a xs) (s : ExtN H H') : SqT K H' a xs := h.elim (fun e => .inl (rdE s e fun _ z => nomatch z)) .inr
mutual
theorem dpE (s : ExtN H H') : ∀ {d : PyData} {x : V}, Dp K H x d → Dp K H' x d
  | _, _, .non => .non
  | _, _, .bl b => .bl b
  | _, _, .int i => .int i
  | _, _, .str x => .str x
  | _, _, .lst h k => .lst (sqE h s) (dpAllE s k)
  | _, _, .tup h k => .tup (tupE h s) (dpAllE s k)
theorem dpAllE (s : ExtN H H') : ∀ {ds : List PyData} {xs : List V}, DpAll K H xs ds → DpAll K H' xs ds
  | _, _, .nil => .nil
  | _, _, .cons h k => .cons (dpE s h) (dpAllE s k)
end
end
/-! ### repr of a pair of a text and a thing -/
inductive DpU (K : PySem.W.Frag) (H : Hp) : V → PyData → Prop
  | one {x : V} {d : PyData} (h : DpT K H x d) : DpU K H x d
  | two {a : Addr} {s : Str} {x : V} {d : PyData} (h : SqL K H a [.str s, x]) (k : DpT K H x d) : DpU K H (.ref a) (.list [.str s, d])
section
variable {X : Cx} {pins : List (Addr × Obj)} {σ : L2.St} {H : Hp} {s : Shared}
end
end My

set_option Elab.async false
set_option linter.all false
set_option maxRecDepth 100000
set_option maxHeartbeats 8000000
/-! LayS: tuple * int, also for 0 and 1; names of lambdas -/
namespace My
open PySem PySem.Spec PyProof.Rows L2 LamX
section
variable {X : Cx}
end
/-! ### a comprehension over a range that also writes the object at p -/
section
variable {K : PySem.W.Frag} {σ : L2.St} {H : Hp} {tb te : TE} {Q : VK} {g : TG} {tt : TT} {vs : List Nat}
end
/-! ### tuples joined, cut, repeated: the tuple that is there then -/
section
variable {K : PySem.W.Frag} {H : Hp} {Q : VK} {a b : Addr} {xs ys : List V}
theorem f_tuple (h1 : H a = some (.lst xs)) (k : ∀ p H', H' p = some (.tup xs) → Same H H' → H p = none → Q (.ref p) H') : (∃ p ys, [V.ref a] = [.ref p] ∧ ((SqL K H p ys ∧ ∀ l, H l = none → Q (.ref l) (upd H l (.tup ys))) ∨ (SqT K H p ys ∧ Q (.ref p) H))) :=
  ⟨a, xs, rfl, .inl ⟨SqL.of h1, fun l hl => k l _ upd_same (My.Same.new (Same.refl H) hl) hl⟩⟩
end
end My

set_option Elab.async false
set_option linter.all false
set_option maxRecDepth 100000
set_option maxHeartbeats 8000000
/-! LayT: more steps; readings that name the heap behind a new object -/
namespace My
open PySem PySem.Spec PyProof.Rows L2
section
variable {K : PySem.W.Frag} {σ : L2.St} {H : Hp} {te t t' : TE} {tA : TA} {Q : VK} {X : Cx} {e : Expr} {es : List Expr} {pos : Pos}
/-- what is to be said of a new object o -/
def NewO (H : Hp) (o : HO) (Q : VK) : Prop := ∀ p H', H p = none → H' p = some o → Same H H' → Q (.ref p) H'
theorem NewO.to {o : HO} (h : NewO H o Q) : ∀ p, H p = none → Q (.ref p) (upd H p o) := fun p hp => h p _ hp upd_same (My.Same.new (Same.refl H) hp)
/-! draws from a list of three ints that keep a condition -/
def Pu (C : Int → Int → Int → Prop) (H : Hp) (p : Addr) : Prop := ∃ a b c : Int, H p = some (.lst [.int a, .int b, .int c]) ∧ C a b c
variable {C : Int → Int → Int → Prop}
theorem Pu.ne {p l : Addr} (h : Pu C H p) (n : H l = none) : l ≠ p := let ⟨_, _, _, e, _⟩ := h; (ne_of_none e n).symm
theorem Pu.nn {p : Addr} (h : Pu C H p) : H p ≠ none := let ⟨_, _, _, e, _⟩ := h; by rw [e]; simp
end
end My

set_option Elab.async false
set_option linter.all false
set_option maxRecDepth 100000
set_option maxHeartbeats 8000000
/-! LayU: reversed ranges in comprehensions, tuples of any kind, truth values compared -/
namespace My
open PySem PySem.Spec PyProof.Rows L2
section
variable {K : PySem.W.Frag} {σ : L2.St} {H : Hp} {te t t' : TE} {tA : TA} {Q : VK} {X : Cx} {g : TG} {tt : TT} {vs : List Nat}
theorem tyT {a : Addr} {xs : List V} (h : SqT K H a xs) : TyX K H (.ref a) (.type "tuple") := by
  rcases h with (h | ⟨o, h⟩) | ⟨o, its, n, h, c, _⟩
  · exact (Kd.tup h).ty
  · exact .fTuple h
  · exact .kTuple h c
end
end My

set_option Elab.async false
set_option linter.all false
set_option maxRecDepth 100000
set_option maxHeartbeats 8000000
/-! LayV: classes, methods, classmethods that may raise, within a try's body; one of two readings of a call -/
namespace My
open PySem PySem.Spec PyProof.Rows L2
section
variable {X : Cx} {CX : CXT} {k j : Nat} {f C : Addr} {x m : Str} {ps : List Str} {dvs : List V} {sp : Sp} {E : L2.St → XK} {o e : Expr} {es : List Expr} {p pos apos : Pos} {t : TA} {ta : TE}
end
section
variable {σ : L2.St} {H : Hp} {ta : TE} {Q : VK} {tA : TA} {C : Addr} {sp : Sp} {dvs : List V} {E : L2.St → XK}
end
end My

set_option Elab.async false
set_option linter.all false
set_option maxRecDepth 100000
set_option maxHeartbeats 8000000
/-! LayW: chains of three comparisons; comprehensions over the signs of a text -/
namespace My
open PySem PySem.Spec PyProof.Rows L2 SX
section
variable {X : Cx} {a b c d : Expr} {ta tb tc td : TE} {pos : Pos}
end
section
variable {σ : L2.St} {H : Hp} {ta tb tc td : TE} {Q : VK}
end
section
variable {K : PySem.W.Frag} {σ : L2.St} {H : Hp} {te t0 : TE} {Q : VK} {g : TG} {tt : TT} {vs : List Nat}
end
/-! repr, also where an error is handled -/
section
variable {X : Cx} {pins : List (Addr × Obj)} {σ : L2.St} {H : Hp} {s : Shared}
end
section
variable {X : Cx} {k : Nat} {f a C : Addr} {oe : Obj} {fd : FuncData} {ps : List Str} {sp : SpQ} {pn : List (Addr × Obj)}
end
section
variable {σ : L2.St} {H : Hp} {nx bk ct : L2.St → Hp → Prop} {rt : VK} {tA : TA}
end
end My

set_option Elab.async false
set_option linter.all false
set_option maxRecDepth 100000
set_option maxHeartbeats 8000000
/-! LayX: defs with a star parameter, where no repr is under way -/
namespace My
open PySem PySem.Spec PyProof.Rows L2
/-- the def at f keeps its promise at any arguments by position -/
structure Gs (P : Program) (w : World) (K : PySem.W.Frag) (mg : Str → Option Value) (base : Heap) (CX : CXT) (k : Nat) (f : Addr) (sp : Sp) : Prop where
  run : ∀ (A : Around) (outer : List Env) (s : Shared) (H : Hp) (us : List Value) (vs : List V) (Q : VK) (E : XK), RG k A → Env0 P w K mg base A outer s H → K.In s.heap → Vals vs us → sp vs H Q E →
    codeAny (model P w) A (.call (.ref f) ⟨us, []⟩) (CR CX outer P w H s Q E) s
  kp : PySem.W.keepIn K (.ref f) = true
section
variable {CX : CXT} {P : Program} {w : World} {K : PySem.W.Frag} {mg : Str → Option Value} {base : Heap} {k : Nat} {f : Addr} {x qual : Str} {params : Arguments} {body : List Stmt} {scope : Scope} {kws : List (Str × V)} {fd : FuncData} {N ps : List Str} {dvs : List V} {sp : Sp}
end
section
variable {X : Cx} {CX : CXT} {k j : Nat} {f C : Addr} {x : Str} {sp : Sp} {E : XK} {e : Expr} {es : List Expr} {p pos sp_ : Pos} {t : TA} {te : TE}
end
section
variable {K : PySem.W.Frag} {σ : L2.St} {H : Hp} {te : TE} {tA : TA} {Q : VK} {C : Addr} {sp : Sp} {E : XK}
end
end My

set_option Elab.async false
set_option linter.all false
set_option maxRecDepth 100000
set_option maxHeartbeats 8000000
/-! DatA: data as trees over an abstract heap: what a value stands for, worlds, states, readings -/
namespace Dt
open PySem PySem.Spec PyProof.Rows L2 My

/-- a value as a tree; ptr: an object of the store, by its number; lsk: the script, a list of the heap or of the frame's facts; adr: an address -/
inductive D where
  | non | bl (b : Bool) | int (i : Int) | str (x : Str) | ty (n : String)
  | tup (xs : List D) | lst (xs : List D) | lsk (xs : List D) | dct (kvs : List (Key × D)) | ins (C : Str) (fs : List (Str × D))
  | cls (C : Str) | fn (f : Str) | ptr (n : Nat) | adr (a : Addr)

/-- the part of the heap that never changes, and where the store's objects stand -/
structure Wd where
  F : Hp
  m : Nat → Addr
  n : Nat

mutual
inductive Rep (K : PySem.W.Frag) (W : Wd) : D → V → Prop
  | non : Rep K W .non .non
  | bl (b : Bool) : Rep K W (.bl b) (.bl b)
  | int (i : Int) : Rep K W (.int i) (.int i)
  | str (x : Str) : Rep K W (.str x) (.str x)
  | ty (n : String) : Rep K W (.ty n) (.ty n)
  | tup {xs : List D} {vs : List V} {a : Addr} (h : SqT K W.F a vs) (r : Reps K W xs vs) : Rep K W (.tup xs) (.ref a)
  | lst {xs : List D} {vs : List V} {a : Addr} (h : Rd W.F a (.lst vs)) (r : Reps K W xs vs) : Rep K W (.lst xs) (.ref a)
  | lsk {xs : List D} {vs : List V} {a : Addr} (h : SqL K W.F a vs) (r : Reps K W xs vs) : Rep K W (.lsk xs) (.ref a)
  | dct {xs : List (Key × D)} {vs : List (Key × V)} {a : Addr} (h : W.F a = some (.dK vs)) (r : RepK K W xs vs) : Rep K W (.dct xs) (.ref a)
  | ins {C : Str} {fs : List (Str × D)} {vs : List (Str × V)} {a dx : Addr} (h : W.F a = some (.ins (He.ga K C) dx vs)) (r : RepF K W fs vs) : Rep K W (.ins C fs) (.ref a)
  | cls (C : Str) : Rep K W (.cls C) (.ref (He.ga K C))
  | fn (f : Str) : Rep K W (.fn f) (.ref (He.ga K f))
  | ptr {i : Nat} (h : i < W.n) : Rep K W (.ptr i) (.ref (W.m i))
  | adr (a : Addr) : Rep K W (.adr a) (.ref a)
inductive Reps (K : PySem.W.Frag) (W : Wd) : List D → List V → Prop
  | nil : Reps K W [] []
  | cons {d : D} {v : V} {ds : List D} {vs : List V} (h : Rep K W d v) (t : Reps K W ds vs) : Reps K W (d :: ds) (v :: vs)
inductive RepK (K : PySem.W.Frag) (W : Wd) : List (Key × D) → List (Key × V) → Prop
  | nil : RepK K W [] []
  | cons {k : Key} {d : D} {v : V} {ds : List (Key × D)} {vs : List (Key × V)} (h : Rep K W d v) (t : RepK K W ds vs) : RepK K W ((k, d) :: ds) ((k, v) :: vs)
inductive RepF (K : PySem.W.Frag) (W : Wd) : List (Str × D) → List (Str × V) → Prop
  | nil : RepF K W [] []
  | cons {k : Str} {d : D} {v : V} {ds : List (Str × D)} {vs : List (Str × V)} (h : Rep K W d v) (t : RepF K W ds vs) : RepF K W ((k, d) :: ds) ((k, v) :: vs)
end

/-- a later world -/
structure Wd.Le (W W' : Wd) : Prop where
  f : ∀ a o, W.F a = some o → W'.F a = some o
  n : W.n ≤ W'.n
  m : ∀ i, i < W.n → W'.m i = W.m i
theorem Wd.Le.refl {W : Wd} : W.Le W := ⟨fun _ _ h => h, Nat.le_refl _, fun _ _ => rfl⟩
theorem Wd.Le.trans {W W1 W2 : Wd} (a : W.Le W1) (b : W1.Le W2) : W.Le W2 := ⟨fun x o h => b.f x o (a.f x o h), Nat.le_trans a.n b.n, fun i h => (b.m i (Nat.lt_of_lt_of_le h a.n)).trans (a.m i h)⟩
theorem sqT_le {K : PySem.W.Frag} {F F' : Hp} {a : Addr} {vs : List V} (l : ∀ a o, F a = some o → F' a = some o) (h : SqT K F a vs) : SqT K F' a vs :=
  h.elim (fun h => .inl (h.elim (fun h => .inl (l _ _ h)) fun ⟨o, h⟩ => .inr ⟨o, l _ _ h⟩)) .inr
theorem rd_le {F F' : Hp} {a : Addr} {u : HO} (l : ∀ a o, F a = some o → F' a = some o) (h : Rd F a u) : Rd F' a u := h.elim (fun h => .inl (l _ _ h)) fun ⟨o, h⟩ => .inr ⟨o, l _ _ h⟩
theorem sqL_le {K : PySem.W.Frag} {F F' : Hp} {a : Addr} {vs : List V} (l : ∀ a o, F a = some o → F' a = some o) (h : SqL K F a vs) : SqL K F' a vs :=
  h.elim (fun h => .inl (h.elim (fun h => .inl (l _ _ h)) fun ⟨o, h⟩ => .inr ⟨o, l _ _ h⟩)) .inr
section
variable {K : PySem.W.Frag} {W W' : Wd}
mutual
theorem Rep.le (l : W.Le W') : ∀ {d : D} {v : V}, Rep K W d v → Rep K W' d v
  | _, _, .non => .non
  | _, _, .bl b => .bl b
  | _, _, .int b => .int b
  | _, _, .str b => .str b
  | _, _, .ty b => .ty b
  | _, _, .tup h r => .tup (sqT_le l.f h) (Reps.le l r)
  | _, _, .lst h r => .lst (rd_le l.f h) (Reps.le l r)
  | _, _, .lsk h r => .lsk (sqL_le l.f h) (Reps.le l r)
  | _, _, .dct h r => .dct (l.f _ _ h) (RepK.le l r)
  | _, _, .ins h r => .ins (l.f _ _ h) (RepF.le l r)
  | _, _, .cls b => .cls b
  | _, _, .fn b => .fn b
  | _, _, .adr b => .adr b
  | _, _, .ptr (i := i) h => by
    rw [← l.m i h]
    exact .ptr (Nat.lt_of_lt_of_le h l.n)
theorem Reps.le (l : W.Le W') : ∀ {d : List D} {v : List V}, Reps K W d v → Reps K W' d v
  | _, _, .nil => .nil
  | _, _, .cons h t => .cons (Rep.le l h) (Reps.le l t)
theorem RepK.le (l : W.Le W') : ∀ {d : List (Key × D)} {v : List (Key × V)}, RepK K W d v → RepK K W' d v
  | _, _, .nil => .nil
  | _, _, .cons h t => .cons (Rep.le l h) (RepK.le l t)
theorem RepF.le (l : W.Le W') : ∀ {d : List (Str × D)} {v : List (Str × V)}, RepF K W d v → RepF K W' d v
  | _, _, .nil => .nil
  | _, _, .cons h t => .cons (Rep.le l h) (RepF.le l t)
end
theorem Reps.len : ∀ {ds : List D} {vs : List V}, Reps K W ds vs → vs.length = ds.length
  | _, _, .nil => rfl
  | _, _, .cons _ t => congrArg (· + 1) t.len
theorem Reps.get : ∀ {ds : List D} {vs : List V} {i : Nat} {v : V}, Reps K W ds vs → vs[i]? = some v → ∃ d, ds[i]? = some d ∧ Rep K W d v
  | _, _, i, _, .nil, e => by simp at e
  | _, _, 0, _, .cons h _, e => by
    simp only [List.getElem?_cons_zero, Option.some.injEq] at e
    subst e
    exact ⟨_, rfl, h⟩
  | _, _, i + 1, _, .cons _ t, e => by
    obtain ⟨d, h1, h2⟩ := t.get (i := i) (by simpa using e)
    exact ⟨d, by simpa using h1, h2⟩
theorem Reps.at : ∀ {ds : List D} {vs : List V} {i : Nat} {d : D}, Reps K W ds vs → ds[i]? = some d → ∃ v, vs[i]? = some v ∧ Rep K W d v
  | _, _, i, _, .nil, e => by simp at e
  | _, _, 0, _, .cons h _, e => by
    simp only [List.getElem?_cons_zero, Option.some.injEq] at e
    subst e
    exact ⟨_, rfl, h⟩
  | _, _, i + 1, _, .cons _ t, e => by
    obtain ⟨d, h1, h2⟩ := t.at (i := i) (by simpa using e)
    exact ⟨d, by simpa using h1, h2⟩
theorem Reps.app : ∀ {ds es : List D} {vs us : List V}, Reps K W ds vs → Reps K W es us → Reps K W (ds ++ es) (vs ++ us)
  | _, _, _, _, .nil, h => h
  | _, _, _, _, .cons r t, h => .cons r (t.app h)
theorem Reps.drop : ∀ {ds : List D} {vs : List V} (i : Nat), Reps K W ds vs → Reps K W (ds.drop i) (vs.drop i)
  | _, _, 0, h => h
  | _, _, _ + 1, .nil => .nil
  | _, _, i + 1, .cons _ t => t.drop i
theorem Reps.take : ∀ {ds : List D} {vs : List V} (i : Nat), Reps K W ds vs → Reps K W (ds.take i) (vs.take i)
  | _, _, 0, _ => .nil
  | _, _, _ + 1, .nil => .nil
  | _, _, i + 1, .cons h t => .cons h (t.take i)
theorem Reps.set {d : D} {v : V} (h : Rep K W d v) : ∀ {ds : List D} {vs : List V} (i : Nat), Reps K W ds vs → Reps K W (ds.set i d) (vs.set i v)
  | _, _, _, .nil => .nil
  | _, _, 0, .cons _ t => .cons h t
  | _, _, i + 1, .cons r t => .cons r (Reps.set h i t)
theorem Reps.rev : ∀ {ds : List D} {vs : List V}, Reps K W ds vs → Reps K W ds.reverse vs.reverse
  | _, _, .nil => .nil
  | _, _, .cons h t => by
    rw [List.reverse_cons, List.reverse_cons]
    exact t.rev.app (.cons h .nil)
theorem Reps.split : ∀ {ds es : List D} {vs : List V}, Reps K W (ds ++ es) vs → ∃ us ws, vs = us ++ ws ∧ Reps K W ds us ∧ Reps K W es ws
  | [], _, vs, h => ⟨[], vs, rfl, .nil, h⟩
  | _ :: ds, _, _, .cons h t => by
    obtain ⟨us, ws, rfl, r1, r2⟩ := Reps.split (ds := ds) t
    exact ⟨_, ws, rfl, .cons h r1, r2⟩
theorem RepF.look (f : Str) : ∀ {fs : List (Str × D)} {vs : List (Str × V)}, RepF K W fs vs → (∃ d v, fs.lookup f = some d ∧ vs.lookup f = some v ∧ Rep K W d v) ∨ (fs.lookup f = none ∧ vs.lookup f = none)
  | _, _, .nil => .inr ⟨rfl, rfl⟩
  | _, _, .cons (k := k) (d := d) (v := v) h t => by
    rw [List.lookup_cons, List.lookup_cons]
    cases e : f == k with
    | true => exact .inl ⟨d, v, rfl, rfl, h⟩
    | false => exact RepF.look f t
/-- f: y among the fields -/
def putD (f : Str) (y : D) : List (Str × D) → List (Str × D)
  | [] => [(f, y)]
  | p :: r => if p.1 = f then (f, y) :: r else p :: putD f y r
theorem RepF.len : ∀ {ds : List (Str × D)} {vs : List (Str × V)}, RepF K W ds vs → vs.length = ds.length
  | _, _, .nil => rfl
  | _, _, .cons _ t => congrArg (· + 1) t.len
theorem RepK.len : ∀ {ds : List (Key × D)} {vs : List (Key × V)}, RepK K W ds vs → vs.length = ds.length
  | _, _, .nil => rfl
  | _, _, .cons _ t => congrArg (· + 1) t.len
end

/-- an object of the store -/
inductive Cell where
  | lst (xs : List D) | dct (kvs : List (Key × D)) | ins (C : Str) (fs : List (Str × D)) | no | tbl (P : Addr) (q : Str) | lck (o : HO) (kvs : List (Key × D))
abbrev Sto := List Cell
def RelC (K : PySem.W.Frag) (W : Wd) (H : Hp) (a : Addr) : Cell → Prop
  | .lst xs => ∃ vs, H a = some (.lst vs) ∧ Reps K W xs vs
  | .dct xs => ∃ vs, H a = some (.dK vs) ∧ RepK K W xs vs
  | .ins C fs => ∃ dx vs, H a = some (.ins (He.ga K C) dx vs) ∧ RepF K W fs vs
  | .no => True
  | .tbl P q => a = P ∧ ∃ ps : Array Value, H a = some (.tbl ps) ∧ TriplesOk ps.toList ∧ ∀ (pos : Pos) (cv : Value), codeAmong pos ps.toList = some cv → ∃ c, cv = .ref c ∧ W.F c = some (LamX.CodeO c q)
  | .lck o xs => H a = some o ∧ ∃ od vs, o = .frz od (.dK vs) ∧ RepK K W xs vs
/-- the heap is held -/
structure Ho (K : PySem.W.Frag) (W : Wd) (H : Hp) (S : Sto) : Prop where
  n : W.n = S.length
  fh : ∀ a o, W.F a = some o → H a = some o
  inj : ∀ i j, i < W.n → j < W.n → W.m i = W.m j → i = j
  mF : ∀ i, i < W.n → W.F (W.m i) = none
  there : ∀ i, i < W.n → ∃ o, H (W.m i) = some o
  cel : ∀ i c, S[i]? = some c → RelC K W H (W.m i) c
/-- what a piece of code may do to world and heap -/
structure Go (W : Wd) (H : Hp) (W' : Wd) (H' : Hp) : Prop where
  le : W.Le W'
  fn : ∀ a o, W'.F a = some o → W.F a = some o ∨ H a = none
  kp : ∀ a o, H a = some o → (∀ i, i < W.n → W.m i ≠ a) → H' a = some o
  mn : ∀ i, W.n ≤ i → i < W'.n → H (W'.m i) = none
theorem Go.refl {W : Wd} {H : Hp} : Go W H W H := ⟨.refl, fun _ _ h => .inl h, fun _ _ h _ => h, fun i h1 h2 => absurd h2 (Nat.not_lt.mpr h1)⟩
theorem Go.trans {K : PySem.W.Frag} {W W1 W2 : Wd} {H H1 H2 : Hp} {S : Sto} (a : Go W H W1 H1) (b : Go W1 H1 W2 H2) (h : Ho K W2 H2 S) : Go W H W2 H2 := by
  refine ⟨a.le.trans b.le, fun x o e => ?_, fun x o e n => ?_, fun i h1 h2 => ?_⟩
  · rcases b.fn x o e with e1 | e1
    · exact a.fn x o e1
    · refine .inr ?_
      cases q : H x with
      | none => rfl
      | some u =>
        by_cases z : ∃ i, i < W.n ∧ W.m i = x
        · obtain ⟨i, hi, rfl⟩ := z
          rw [← (a.le.trans b.le).m i hi, h.mF i (Nat.lt_of_lt_of_le hi (a.le.trans b.le).n)] at e
          cases e
        · rw [a.kp x u q fun i hi c => z ⟨i, hi, c⟩] at e1
          cases e1
  · refine b.kp x o (a.kp x o e n) fun i hi c => ?_
    by_cases z : i < W.n
    · exact n i z ((a.le.m i z).symm.trans c)
    · have := a.mn i (Nat.not_lt.mp z) hi
      rw [c, e] at this
      cases this
  · by_cases z : i < W1.n
    · rw [b.le.m i z]
      exact a.mn i h1 z
    · have e := b.mn i (Nat.not_lt.mp z) h2
      cases q : H (W2.m i) with
      | none => rfl
      | some u =>
        by_cases y : ∃ j, j < W.n ∧ W.m j = W2.m i
        · obtain ⟨j, hj, c⟩ := y
          rw [← (a.le.trans b.le).m j hj] at c
          have := h.inj j i (Nat.lt_of_lt_of_le hj (a.le.trans b.le).n) h2 c
          omega
        · rw [a.kp _ u q fun j hj c => y ⟨j, hj, c⟩] at e
          cases e
/-- an object that stands by itself stays -/
theorem Go.keep {K : PySem.W.Frag} {W W1 : Wd} {H H1 : Hp} {S : Sto} {a : Addr} {o : HO} (g : Go W H W1 H1) (h : Ho K W H S) (e : W.F a = some o) : H1 a = some o :=
  g.kp a o (h.fh a o e) fun i hi c => by
    have := h.mF i hi
    rw [c, e] at this
    cases this

/-- what an expression gives: a value; a list or a dict that is the frame's own, as it is now; the instance under way -/
inductive O where
  | v (d : D) | b (xs : List D) | bd (kvs : List (Key × D)) | s (C : Str) (fs : List (Str × D))
/-- a slot: nothing known; a value; a list, a dict of the frame's own; the instance under way -/
inductive Sl where
  | un | sh (d : D) | ol (xs : List D) | od (kvs : List (Key × D)) | slf (C : Str) (fs : List (Str × D)) | exc (C : Str) (fs : List (Str × D))
/-- the entry of a frame: the world and the heap there, the instance under way, the handled error -/
structure En where
  W : Wd
  H : Hp
  me : Addr
  pin : Option (Addr × Obj)
structure Own (en : En) (W : Wd) (H : Hp) (a : Addr) : Prop where
  f : W.F a = none
  e : en.H a = none
  m : ∀ i, i < W.n → W.m i ≠ a
/-- the error at p: its class, its fields -/
def XRep (K : PySem.W.Frag) (W : Wd) (C : Str) (fs : List (Str × D)) (cls : Value) (d : Option Addr) : Prop :=
  cls = .ref (He.ga K C) ∧ ((fs = [] ∧ d = none) ∨ ∃ dd vs, d = some dd ∧ W.F dd = some (.xd vs) ∧ RepF K W fs vs)
theorem XRep.le {K : PySem.W.Frag} {W W' : Wd} {C : Str} {fs : List (Str × D)} {cls : Value} {d : Option Addr} (l : W.Le W') (h : XRep K W C fs cls d) : XRep K W' C fs cls d :=
  ⟨h.1, h.2.imp id fun ⟨dd, vs, e, f, r⟩ => ⟨dd, vs, e, l.f _ _ f, r.le l⟩⟩
def RelS (K : PySem.W.Frag) (en : En) (W : Wd) (H : Hp) (sv : Option (Option V)) : Sl → Prop
  | .un => True
  | .sh d => ∃ v, sv = some (some v) ∧ Rep K W d v
  | .ol xs => ∃ a vs, sv = some (some (.ref a)) ∧ H a = some (.lst vs) ∧ Reps K W xs vs ∧ Own en W H a
  | .od xs => ∃ a vs, sv = some (some (.ref a)) ∧ H a = some (.dK vs) ∧ RepK K W xs vs ∧ Own en W H a
  | .slf C fs => ∃ dx vs, sv = some (some (.ref en.me)) ∧ H en.me = some (.ins (He.ga K C) dx vs) ∧ RepF K W fs vs ∧ Own en W H en.me
  | .exc C fs => ∃ p, en.pin = some p ∧ sv = some (some (.ref p.1)) ∧ XRep K W C fs p.2.cls p.2.dict
def isOwn : Sl → Bool
  | .ol _ => true
  | .od _ => true
  | .slf _ _ => true
  | _ => false
structure Rs (K : PySem.W.Frag) (en : En) (W : Wd) (σ : L2.St) (H : Hp) (ρ : List Sl) (S : Sto) : Prop where
  ho : Ho K W H S
  go : Go en.W en.H W H
  len : ρ.length = σ.length
  sl : ∀ (i : Nat) (s : Sl), ρ[i]? = some s → RelS K en W H σ[i]? s
  dis : ∀ (i j : Nat) (s t : Sl) (a : Addr), i ≠ j → ρ[i]? = some s → isOwn s = true → ρ[j]? = some t → isOwn t = true → σ[i]? = some (some (.ref a)) → σ[j]? = some (some (.ref a)) → False
theorem Own.go {en : En} {W W' : Wd} {H H' : Hp} {a : Addr} {o : HO} (w : Own en W H a) (g : Go W H W' H') (e : H a = some o) : Own en W' H' a := by
  refine ⟨?_, w.e, fun i hi c => ?_⟩
  · cases q : W'.F a with
    | none => rfl
    | some u =>
      rcases g.fn a u q with z | z
      · rw [w.f] at z
        cases z
      · rw [e] at z
        cases z
  · by_cases z : i < W.n
    · exact w.m i z ((g.le.m i z).symm.trans c)
    · have := g.mn i (Nat.not_lt.mp z) hi
      rw [c, e] at this
      cases this
theorem RelS.go {K : PySem.W.Frag} {en : En} {W W' : Wd} {H H' : Hp} {sv : Option (Option V)} {s : Sl} (g : Go W H W' H') (h : RelS K en W H sv s) : RelS K en W' H' sv s := by
  cases s with
  | un => trivial
  | sh d =>
    obtain ⟨v, e, r⟩ := h
    exact ⟨v, e, r.le g.le⟩
  | ol xs =>
    obtain ⟨a, vs, e, q, r, w⟩ := h
    exact ⟨a, vs, e, g.kp _ _ q w.m, r.le g.le, w.go g q⟩
  | od xs =>
    obtain ⟨a, vs, e, q, r, w⟩ := h
    exact ⟨a, vs, e, g.kp _ _ q w.m, r.le g.le, w.go g q⟩
  | slf C fs =>
    obtain ⟨dx, vs, e, q, r, w⟩ := h
    exact ⟨dx, vs, e, g.kp _ _ q w.m, r.le g.le, w.go g q⟩
  | exc C fs =>
    obtain ⟨p, e, q, r⟩ := h
    exact ⟨p, e, q, r.le g.le⟩
/-- behind an expression -/
theorem Rs.after {K : PySem.W.Frag} {en : En} {W W' : Wd} {σ : L2.St} {H H' : Hp} {ρ : List Sl} {S S' : Sto} (r : Rs K en W σ H ρ S) (h : Ho K W' H' S') (g : Go W H W' H') : Rs K en W' σ H' ρ S' :=
  ⟨h, r.go.trans g h, r.len, fun i s e => (r.sl i s e).go g, r.dis⟩
def RepO (K : PySem.W.Frag) (en : En) (W : Wd) (H : Hp) : O → V → Prop
  | .v d, v => Rep K W d v
  | .b xs, v => ∃ a vs, v = .ref a ∧ H a = some (.lst vs) ∧ Reps K W xs vs ∧ Own en W H a
  | .bd xs, v => ∃ a vs, v = .ref a ∧ H a = some (.dK vs) ∧ RepK K W xs vs ∧ Own en W H a
  | .s C fs, v => ∃ dx vs, v = .ref en.me ∧ H en.me = some (.ins (He.ga K C) dx vs) ∧ RepF K W fs vs ∧ Own en W H en.me
theorem RepO.go {K : PySem.W.Frag} {en : En} {W W' : Wd} {H H' : Hp} {o : O} {v : V} (g : Go W H W' H') (h : RepO K en W H o v) : RepO K en W' H' o v := by
  cases o with
  | v d => exact Rep.le g.le h
  | b xs =>
    obtain ⟨a, vs, e, q, r, w⟩ := h
    exact ⟨a, vs, e, g.kp _ _ q w.m, r.le g.le, w.go g q⟩
  | bd xs =>
    obtain ⟨a, vs, e, q, r, w⟩ := h
    exact ⟨a, vs, e, g.kp _ _ q w.m, r.le g.le, w.go g q⟩
  | s C fs =>
    obtain ⟨dx, vs, e, q, r, w⟩ := h
    exact ⟨dx, vs, e, g.kp _ _ q w.m, r.le g.le, w.go g q⟩
end Dt

set_option Elab.async false
set_option linter.all false
set_option maxRecDepth 100000
set_option maxHeartbeats 8000000
/-! DatB: judgements over trees, operators by their meaning, expressions -/
namespace Dt
open PySem PySem.Spec PyProof.Rows L2 My
/-- what holds through a law -/
structure Bs where
  P : Program
  w : World
  K : PySem.W.Frag
  mg : Str → Option Value
  base : Heap
  hot : Bool
  /-- a generator's body: the guards are not known, no handler's body -/
  gen : Bool
/-- neither a handler's body -/
abbrev Bs.cal (B : Bs) : Bool := B.hot && !B.gen
abbrev Bs.gn (B : Bs) : Bool := B.hot && B.gen
structure FitsB (B : Bs) (k : Nat) (X : Cx) (en : En) : Prop where
  P : X.prog = B.P
  w : X.w = B.w
  K : X.K = B.K
  mg : X.mg = B.mg
  base : X.base = B.base
  rm : L2H.RoomH k X.A
  gd : B.gn = false → X.A.guards = some []
  cm : B.cal = false → X.calm = true ∧ X.A.handled = none
  pin : ∀ p, en.pin = some p → p ∈ X.pn ∧ ∃ vs : Array Value, p.2.data = .fields vs
  nq : B.cal = false → en.pin = none
structure Cf where
  B : Bs
  k : Nat
  N : List Str
  sc : Scope
  lp : Bool
  fn : Str → Bool
  tr : Bool
  ax : Cx → En → Prop
  axt : ∀ (X : Cx) (en : En) (pn : List (Addr × Obj)) (xe : Value → Shared → Prop), ax X en → ax (X.tr pn xe) en
structure Fits (G : Cf) (X : Cx) (en : En) : Prop where
  b : FitsB G.B G.k X en
  N : X.N = G.N
  sc : X.env.scope = G.sc
  nd : X.N.Nodup
  fn : ∀ x, G.fn x = true → X.fn x = true
  po : G.lp = true → PassesOwn (model X.prog X.w) X.A X.env X.xe
  st : G.tr = true → X.stack = X.env :: X.outer ∧ X.env.frame = some X.env.locals
  ax : G.ax X en
theorem FitsB.calm {B : Bs} {k : Nat} {X : Cx} {en : En} (f : FitsB B k X en) (h : B.hot = false) : X.calm = true ∧ X.A.handled = none := f.cm (by simp [h])
theorem FitsB.np {B : Bs} {k : Nat} {X : Cx} {en : En} (f : FitsB B k X en) (h : B.hot = false) : en.pin = none := f.nq (by simp [h])
theorem FitsB.g {B : Bs} {k : Nat} {X : Cx} {en : En} (f : FitsB B k X en) (h : B.gn = false) : X.A.guards = some [] := f.gd h
theorem FitsB.rg {B : Bs} {k : Nat} {X : Cx} {en : En} (f : FitsB B k X en) (h : B.hot = false) : RG k X.A := ⟨⟨(f.calm h).2, f.rm.dp, f.rm.un⟩, f.gd (by simp [h])⟩
theorem FitsB.units {B : Bs} {k : Nat} {X : Cx} {en : En} (f : FitsB B k X en) : X.A.units + 64 < cLine := by
  have := f.rm.un
  omega
theorem FitsB.mono {B : Bs} {j k : Nat} {X : Cx} {en : En} (f : FitsB B k X en) (h : j ≤ k) : FitsB B j X en := ⟨f.P, f.w, f.K, f.mg, f.base, f.rm.mono h, f.gd, f.cm, f.pin, f.nq⟩

abbrev QO := O → Sto → Prop
abbrev XS := Str → List (Str × D) → Sto → Prop
abbrev XD := List Sl → XS
abbrev RE := List Sl → Sto → XD → QO → Prop
abbrev RT := List Sl → Sto → XD → (Bool → Sto → Prop) → Prop
abbrev RA := List Sl → Sto → XD → (List O → Sto → Prop) → Prop

/-- an expression's wish, below -/
def Nx (K : PySem.W.Frag) (en : En) (W : Wd) (H : Hp) (Q : QO) : VK := fun v H' => ∃ W' o S', Ho K W' H' S' ∧ Go W H W' H' ∧ RepO K en W' H' o v ∧ Q o S'
def NxB (K : PySem.W.Frag) (W : Wd) (H : Hp) (Q : Bool → Sto → Prop) : Bool → Hp → Prop := fun c H' => ∃ W' S', Ho K W' H' S' ∧ Go W H W' H' ∧ Q c S'
abbrev RepOs (K : PySem.W.Frag) (en : En) (W : Wd) (H : Hp) : List O → List V → Prop := Paired (RepO K en W H)
def NxA (K : PySem.W.Frag) (en : En) (W : Wd) (H : Hp) (Q : List O → Sto → Prop) : List V → Hp → Prop := fun vs H' => ∃ W' os S', Ho K W' H' S' ∧ Go W H W' H' ∧ RepOs K en W' H' os vs ∧ Q os S'
/-- an error on its way out of an operation -/
def XN (K : PySem.W.Frag) (W : Wd) (H : Hp) (σ : L2.St) (Ex : XS) : WX := fun cls d σ' H' => σ' = σ ∧ ∃ C fs W' S', XRep K W' C fs cls d ∧ Ho K W' H' S' ∧ Go W H W' H' ∧ Ex C fs S'
/-- .. out of a piece of the frame -/
def XT (K : PySem.W.Frag) (en : En) (W0 : Wd) (E : XD) : WX := fun cls d σ H => ∃ C fs W ρ S, XRep K W C fs cls d ∧ Rs K en W σ H ρ S ∧ W0.Le W ∧ E ρ C fs S
theorem tk_up {K : PySem.W.Frag} {en : En} {W0 W1 : Wd} {E : XD} {X : Cx} (l : W0.Le W1) (t : Takes X (XT K en W0 E)) : Takes X (XT K en W1 E) :=
  t.imp fun cls d σ' H' ⟨C, fs, W', ρ, S', x, r, l2, q⟩ => ⟨C, fs, W', ρ, S', x, r, l.trans l2, q⟩
theorem xn_of {K : PySem.W.Frag} {en : En} {W : Wd} {H : Hp} {σ : L2.St} {ρ : List Sl} {S : Sto} {E : XD} {X : Cx} (t : Takes X (XT K en W E)) (r : Rs K en W σ H ρ S) : Takes X (XN K W H σ (E ρ)) :=
  t.imp fun cls d σ' H' ⟨e, C, fs, W', S', x, h, g, q⟩ => by
    subst e
    exact ⟨C, fs, W', ρ, S', x, r.after h g, g.le, q⟩
theorem XN.back {K : PySem.W.Frag} {W W1 : Wd} {H H1 : Hp} {σ : L2.St} {Ex : XS} {X : Cx} (t : Takes X (XN K W H σ Ex)) (g : Go W H W1 H1) : Takes X (XN K W1 H1 σ Ex) :=
  t.imp fun cls d σ' H' ⟨e, C, fs, W', S', x, h, g2, q⟩ => ⟨e, C, fs, W', S', x, h, g.trans g2 h, q⟩
theorem Nx.back {K : PySem.W.Frag} {en : En} {W W1 : Wd} {H H1 : Hp} {Q : QO} (g : Go W H W1 H1) : ∀ v H', Nx K en W1 H1 Q v H' → Nx K en W H Q v H' := fun v H' ⟨W', o, S', h, g2, r, q⟩ => ⟨W', o, S', h, g.trans g2 h, r, q⟩
theorem NxB.back {K : PySem.W.Frag} {W W1 : Wd} {H H1 : Hp} {Q : Bool → Sto → Prop} (g : Go W H W1 H1) : ∀ v H', NxB K W1 H1 Q v H' → NxB K W H Q v H' := fun v H' ⟨W', S', h, g2, q⟩ => ⟨W', S', h, g.trans g2 h, q⟩
theorem NxA.back {K : PySem.W.Frag} {en : En} {W W1 : Wd} {H H1 : Hp} {Q : List O → Sto → Prop} (g : Go W H W1 H1) : ∀ v H', NxA K en W1 H1 Q v H' → NxA K en W H Q v H' := fun v H' ⟨W', o, S', h, g2, r, q⟩ => ⟨W', o, S', h, g.trans g2 h, r, q⟩
theorem ep_mono {X : Cx} {pins : List (Addr × Obj)} {σ : L2.St} {Q Q' : VK} {u : Value} {s : Shared} (h : ∀ v H, Q v H → Q' v H) : EP X pins σ Q u s → EP X pins σ Q' u s := fun ⟨v, H, I, r, q⟩ => ⟨v, H, I, r, h _ _ q⟩
theorem RepOs.go {K : PySem.W.Frag} {en : En} {W W' : Wd} {H H' : Hp} (g : Go W H W' H') : ∀ {os : List O} {vs : List V}, RepOs K en W H os vs → RepOs K en W' H' os vs
  | _, _, .nil => .nil
  | _, _, .cons h t => .cons (h.go g) (RepOs.go g t)
theorem RepOs.get {K : PySem.W.Frag} {en : En} {W : Wd} {H : Hp} : ∀ {os : List O} {vs : List V}, RepOs K en W H os vs → os.length = vs.length
  | _, _, .nil => rfl
  | _, _, .cons _ t => congrArg (· + 1) (RepOs.get t)

/-! ### operations by their meaning -/
def sem1 (B : Bs) (k : Nat) (f : Value → Sem Value) (x : O) (S : Sto) (Ex : XS) (Q : QO) : Prop :=
  ∀ (X : Cx) (en : En) (W : Wd) (σ : L2.St) (H : Hp), FitsB B k X en → Takes X (XN B.K W H σ Ex) → Ho B.K W H S → ∀ x', RepO B.K en W H x x' →
    ∀ (pins : List (Addr × Obj)) (s : Shared) (v : Value), Inv X pins σ H s → RelV x' v → wpAny (model X.prog X.w) X.A (f v) (EP X pins σ (Nx B.K en W H Q)) X.xe s
def sem2 (B : Bs) (k : Nat) (f : Value → Value → Sem Value) (x y : O) (S : Sto) (Ex : XS) (Q : QO) : Prop :=
  ∀ (X : Cx) (en : En) (W : Wd) (σ : L2.St) (H : Hp), FitsB B k X en → Takes X (XN B.K W H σ Ex) → Ho B.K W H S → ∀ x' y', RepO B.K en W H x x' → RepO B.K en W H y y' →
    ∀ (pins : List (Addr × Obj)) (s : Shared) (v u : Value), Inv X pins σ H s → RelV x' v → RelV y' u → wpAny (model X.prog X.w) X.A (f v u) (EP X pins σ (Nx B.K en W H Q)) X.xe s
/-- f(..): the values by position, those by the names ks -/
def sCall (B : Bs) (k : Nat) (fv : Value) (ks : List Str) (xs zs : List O) (S : Sto) (Ex : XS) (Q : QO) : Prop :=
  ∀ (X : Cx) (en : En) (W : Wd) (σ : L2.St) (H : Hp), FitsB B k X en → Takes X (XN B.K W H σ Ex) → Ho B.K W H S → ∀ xs' zs', RepOs B.K en W H xs xs' → RepOs B.K en W H zs zs' →
    ∀ (pins : List (Addr × Obj)) (s : Shared) (us ws : List Value), Inv X pins σ H s → Vals xs' us → Vals zs' ws → wpAny (model X.prog X.w) X.A (call fv us (ks.zip ws)) (EP X pins σ (Nx B.K en W H Q)) X.xe s
/-- a value's truth -/
def semB (B : Bs) (k : Nat) (x : O) (S : Sto) (Q : Bool → Sto → Prop) : Prop :=
  ∀ (X : Cx) (en : En) (W : Wd) (σ : L2.St) (H : Hp), FitsB B k X en → Ho B.K W H S → ∀ x', RepO B.K en W H x x' →
    ∀ (pins : List (Addr × Obj)) (s : Shared) (v : Value), Inv X pins σ H s → RelV x' v → wpAny (model X.prog X.w) X.A (truthy v) (TP X pins σ (NxB B.K W H Q)) X.xe s
theorem sem2.mono {B : Bs} {k : Nat} {f : Value → Value → Sem Value} {x y : O} {S : Sto} {Ex : XS} {Q Q' : QO} (h : sem2 B k f x y S Ex Q) (m : ∀ o S', Q o S' → Q' o S') : sem2 B k f x y S Ex Q' :=
  fun X en W σ H hf tk ho x' y' rx ry pins s v u I r1 r2 => thn (h X en W σ H hf tk ho x' y' rx ry pins s v u I r1 r2) fun _ _ => ep_mono fun _ _ ⟨W', o, S', h1, h2, h3, q⟩ => ⟨W', o, S', h1, h2, h3, m _ _ q⟩

/-! ### judgements -/
/-- a state in a frame -/
structure At (G : Cf) (X : Cx) (en : En) (W : Wd) (σ : L2.St) (H : Hp) (ρ : List Sl) (S : Sto) (E : XD) (pins : List (Addr × Obj)) (s : Shared) : Prop where
  hf : Fits G X en
  tk : Takes X (XT G.B.K en W E)
  rs : Rs G.B.K en W σ H ρ S
  I : Inv X pins σ H s
structure DE (G : Cf) (e : Expr) (t : RE) : Prop where
  run : ∀ {X en W σ H ρ S E pins s Q}, At G X en W σ H ρ S E pins s → t ρ S E Q → wpAny (model X.prog X.w) X.A (eval e X.env) (EP X pins σ (Nx G.B.K en W H Q)) X.xe s
structure DT (G : Cf) (e : Expr) (t : RT) : Prop where
  run : ∀ {X en W σ H ρ S E pins s Q}, At G X en W σ H ρ S E pins s → t ρ S E Q → wpAny (model X.prog X.w) X.A (isTrue e X.env (eval e X.env)) (TP X pins σ (NxB G.B.K W H Q)) X.xe s
/-- .. whatever its whole is -/
structure DW (G : Cf) (e : Expr) (t : RT) : Prop where
  run : ∀ (whole : Sem Value) {X en W σ H ρ S E pins s Q}, At G X en W σ H ρ S E pins s → t ρ S E Q → wpAny (model X.prog X.w) X.A (isTrue e X.env whole) (TP X pins σ (NxB G.B.K W H Q)) X.xe s
structure DA (G : Cf) (es : List Expr) (t : RA) : Prop where
  run : ∀ (pos : Pos) {X en W σ H ρ S E pins s Q}, At G X en W σ H ρ S E pins s → t ρ S E Q → wpAny (model X.prog X.w) X.A (spliced (backTo pos (starEach es X.env))) (AP X pins σ (NxA G.B.K en W H Q)) X.xe s
structure DK (G : Cf) (kws : List Keyword) (t : RA) : Prop where
  run : ∀ (pos : Pos) {X en W σ H ρ S E pins s Q}, At G X en W σ H ρ S E pins s → t ρ S E Q → wpAny (model X.prog X.w) X.A (evalAll ((backToKw pos (keywordEach kws X.env)).map (·.2))) (AP X pins σ (NxA G.B.K en W H Q)) X.xe s
section
variable {G : Cf} {X : Cx} {en : En} {W W1 : Wd} {σ : L2.St} {H H1 : Hp} {ρ : List Sl} {S S1 : Sto} {E : XD} {pins : List (Addr × Obj)} {s s1 : Shared} {e a b c : Expr} {t ta tb tc : RE}
theorem At.next (a : At G X en W σ H ρ S E pins s) (I : Inv X pins σ H1 s1) (h : Ho G.B.K W1 H1 S1) (g : Go W H W1 H1) : At G X en W1 σ H1 ρ S1 E pins s1 := ⟨a.hf, tk_up g.le a.tk, a.rs.after h g, I⟩
theorem At.xn (a : At G X en W σ H ρ S E pins s) : Takes X (XN G.B.K W H σ (E ρ)) := xn_of a.tk a.rs
/-- a part's reading, the rest behind it -/
theorem DE.at {P : Value → Shared → Prop} {Kq : QO} (h : DE G e t) (z : At G X en W σ H ρ S E pins s) (q : t ρ S E Kq)
    (k : ∀ v s1 x' H1 W1 o S1, At G X en W1 σ H1 ρ S1 E pins s1 → Go W H W1 H1 → RelV x' v → RepO G.B.K en W1 H1 o x' → Kq o S1 → P v s1) : wpAny (model X.prog X.w) X.A (eval e X.env) P X.xe s :=
  thn (h.run z q) fun v s1 ⟨x', H1, I1, r1, W1, o, S1, h1, g1, ro, q1⟩ => k v s1 x' H1 W1 o S1 (z.next I1 h1 g1) g1 r1 ro q1
theorem DT.at {P : Bool → Shared → Prop} {t : RT} {Kq : Bool → Sto → Prop} (h : DT G e t) (z : At G X en W σ H ρ S E pins s) (q : t ρ S E Kq)
    (k : ∀ c s1 H1 W1 S1, At G X en W1 σ H1 ρ S1 E pins s1 → Go W H W1 H1 → Kq c S1 → P c s1) : wpAny (model X.prog X.w) X.A (isTrue e X.env (eval e X.env)) P X.xe s :=
  thn (h.run z q) fun c s1 ⟨H1, I1, W1, S1, h1, g1, q1⟩ => k c s1 H1 W1 S1 (z.next I1 h1 g1) g1 q1
theorem DA.at {es : List Expr} {P : List Value → Shared → Prop} {t : RA} {Kq : List O → Sto → Prop} (h : DA G es t) (pos : Pos) (z : At G X en W σ H ρ S E pins s) (q : t ρ S E Kq)
    (k : ∀ us s1 vs H1 W1 os S1, At G X en W1 σ H1 ρ S1 E pins s1 → Go W H W1 H1 → Vals vs us → RepOs G.B.K en W1 H1 os vs → Kq os S1 → P us s1) : wpAny (model X.prog X.w) X.A (spliced (backTo pos (starEach es X.env))) P X.xe s :=
  thn (h.run pos z q) fun us s1 ⟨vs, H1, I1, r1, W1, o, S1, h1, g1, ro, q1⟩ => k us s1 vs H1 W1 o S1 (z.next I1 h1 g1) g1 r1 ro q1
theorem DK.at {kws : List Keyword} {P : List Value → Shared → Prop} {t : RA} {Kq : List O → Sto → Prop} (h : DK G kws t) (pos : Pos) (z : At G X en W σ H ρ S E pins s) (q : t ρ S E Kq)
    (k : ∀ us s1 vs H1 W1 os S1, At G X en W1 σ H1 ρ S1 E pins s1 → Go W H W1 H1 → Vals vs us → RepOs G.B.K en W1 H1 os vs → Kq os S1 → P us s1) : wpAny (model X.prog X.w) X.A (evalAll ((backToKw pos (keywordEach kws X.env)).map (·.2))) P X.xe s :=
  thn (h.run pos z q) fun us s1 ⟨vs, H1, I1, r1, W1, o, S1, h1, g1, ro, q1⟩ => k us s1 vs H1 W1 o S1 (z.next I1 h1 g1) g1 r1 ro q1
theorem At.nx {v : V} {o : O} {Q : QO} {u : Value} (z : At G X en W σ H ρ S E pins s) (r : RelV v u) (ro : RepO G.B.K en W H o v) (q : Q o S) : EP X pins σ (Nx G.B.K en W H Q) u s := ⟨v, H, z.I, r, W, o, S, z.rs.ho, .refl, ro, q⟩
theorem At.op1 {f : Value → Sem Value} {v : V} {o : O} {Q : QO} {u : Value} (z : At G X en W σ H ρ S E pins s) (r : RelV v u) (ro : RepO G.B.K en W H o v) (q : sem1 G.B G.k f o S (E ρ) Q) : wpAny (model X.prog X.w) X.A (f u) (EP X pins σ (Nx G.B.K en W H Q)) X.xe s :=
  q X en W σ H z.hf.b z.xn z.rs.ho v ro pins s u z.I r
theorem At.op2 {f : Value → Value → Sem Value} {v v2 : V} {o o2 : O} {Q : QO} {u u2 : Value} (z : At G X en W σ H ρ S E pins s) (r : RelV v u) (ro : RepO G.B.K en W H o v) (r2 : RelV v2 u2) (ro2 : RepO G.B.K en W H o2 v2) (q : sem2 G.B G.k f o o2 S (E ρ) Q) :
    wpAny (model X.prog X.w) X.A (f u u2) (EP X pins σ (Nx G.B.K en W H Q)) X.xe s :=
  q X en W σ H z.hf.b z.xn z.rs.ho v v2 ro ro2 pins s u u2 z.I r r2
theorem ep_back {Q : QO} {u : Value} (g : Go W H W1 H1) : EP X pins σ (Nx G.B.K en W1 H1 Q) u s1 → EP X pins σ (Nx G.B.K en W H Q) u s1 := ep_mono (Nx.back g)
theorem tp_back {Q : Bool → Sto → Prop} {c : Bool} (g : Go W H W1 H1) : TP X pins σ (NxB G.B.K W1 H1 Q) c s1 → TP X pins σ (NxB G.B.K W H Q) c s1 := fun ⟨H', I, q⟩ => ⟨H', I, NxB.back g _ _ q⟩

/-! ### names, constants -/
def dVar (i : Nat) : RE := fun ρ S _ Q => (∃ d, ρ[i]? = some (.sh d) ∧ Q (.v d) S) ∨ (∃ xs, ρ[i]? = some (.ol xs) ∧ Q (.b xs) S) ∨ (∃ xs, ρ[i]? = some (.od xs) ∧ Q (.bd xs) S) ∨ (∃ C fs, ρ[i]? = some (.slf C fs) ∧ Q (.s C fs) S)
abbrev dC (d : D) : RE := fun _ S _ Q => Q (.v d) S
theorem de_var {i : Nat} {x : Str} {pos : Pos} (hN : G.N[i]? = some x) (hv : Vis G.sc x) (hd : (x == ("__debug__" : Str)) = false := by decide) (hcd : (x == ("__classdict__" : Str)) = false := by decide) : DE G (.Name x pos) (dVar i) := by
  refine ⟨fun {X en W σ H ρ S E pins s Q} z q => ?_⟩
  have p := pe_var (X := X) (i := i) (x := x) (pos := pos) (by rw [z.hf.N]; exact hN) (by rw [z.hf.sc]; exact hv) hd hcd
  rcases q with ⟨d, e, q⟩ | ⟨d, e, q⟩ | ⟨d, e, q⟩ | ⟨C, fs, e, q⟩
  · obtain ⟨v, e1, r⟩ := z.rs.sl i _ e
    exact p.run pins s σ H _ z.I ⟨v, e1, W, .v d, S, z.rs.ho, .refl, r, q⟩
  · obtain ⟨a, vs, e1, h, r, w⟩ := z.rs.sl i _ e
    exact p.run pins s σ H _ z.I ⟨_, e1, W, .b d, S, z.rs.ho, .refl, ⟨a, vs, rfl, h, r, w⟩, q⟩
  · obtain ⟨a, vs, e1, h, r, w⟩ := z.rs.sl i _ e
    exact p.run pins s σ H _ z.I ⟨_, e1, W, .bd d, S, z.rs.ho, .refl, ⟨a, vs, rfl, h, r, w⟩, q⟩
  · obtain ⟨dx, vs, e1, h, r, w⟩ := z.rs.sl i _ e
    exact p.run pins s σ H _ z.I ⟨_, e1, W, .s C fs, S, z.rs.ho, .refl, ⟨dx, vs, rfl, h, r, w⟩, q⟩
/-- what always gives one value -/
theorem de_of {e : Expr} {v : V} {d : D} (h : ∀ X : Cx, X.K = G.B.K → X.mg = G.B.mg → X.env.scope = G.sc → PE X e (tC v)) (r : ∀ W, Rep G.B.K W d v) : DE G e (dC d) := by
  refine ⟨fun {X en W σ H ρ S E pins s Q} z q => ?_⟩
  exact (h X z.hf.b.K z.hf.b.mg z.hf.sc).run pins s σ H _ z.I ⟨W, .v d, S, z.rs.ho, .refl, r W, q⟩
theorem de_int {i j pos} : DE G (.Constant (.int i) j pos) (dC (.int i)) := de_of (fun _ _ _ _ => pe_int) fun _ => .int i
theorem de_bl {b j pos} : DE G (.Constant (.bool b) j pos) (dC (.bl b)) := de_of (fun _ _ _ _ => pe_bl) fun _ => .bl b
theorem de_non {j pos} : DE G (.Constant .none j pos) (dC .non) := de_of (fun _ _ _ _ => pe_non) fun _ => .non
theorem de_str {x j pos} : DE G (.Constant (.str x) j pos) (dC (.str x)) := de_of (fun _ _ _ _ => pe_str) fun _ => .str x
abbrev Glb (G : Cf) (x : Str) : Prop := G.sc.names.lookup x = some .globalImplicit
theorem gl_of {G : Cf} {X : Cx} {x : Str} (h : X.env.scope = G.sc) (g : Glb G x) : Gl X x := by
  show X.env.scope.names.lookup x = some .globalImplicit
  rw [h]
  exact g
theorem de_glob {x : Str} {v : V} {d : D} {u : Value} {pos : Pos} (hg : Glb G x) (hm : G.B.mg x = some u) (r : RelV v u) (rd : ∀ W, Rep G.B.K W d v) (hd : (x == ("__debug__" : Str)) = false := by decide) : DE G (.Name x pos) (dC d) :=
  de_of (fun X e1 e2 e3 => pe_glob (gl_of e3 hg) (by rw [e2]; exact hm) r hd) rd
theorem de_gint {x : Str} {i : Int} {pos : Pos} (hg : Glb G x) (hm : ∃ t, G.B.mg x = some (.int i t)) (hd : (x == ("__debug__" : Str)) = false := by decide) : DE G (.Name x pos) (dC (.int i)) := by
  obtain ⟨t, hm⟩ := hm
  exact de_glob (v := .int i) hg hm ⟨t, rfl⟩ (fun _ => .int i) hd
theorem de_gstr {x : Str} {i : Str} {pos : Pos} (hg : Glb G x) (hm : ∃ t, G.B.mg x = some (.str i t)) (hd : (x == ("__debug__" : Str)) = false := by decide) : DE G (.Name x pos) (dC (.str i)) := by
  obtain ⟨t, hm⟩ := hm
  exact de_glob (v := .str i) hg hm ⟨t, rfl⟩ (fun _ => .str i) hd
theorem de_cls {x : Str} {pos : Pos} (hg : Glb G x) (hm : G.B.mg x = some (.ref (He.ga G.B.K x))) (hd : (x == ("__debug__" : Str)) = false := by decide) : DE G (.Name x pos) (dC (.cls x)) := de_glob (v := .ref (He.ga G.B.K x)) hg hm rfl (fun _ => .cls x) hd
theorem de_ty {x : Str} {n : String} {pos : Pos} (hg : Glb G x) (hm : G.B.mg x = none) (hv : bootBuiltins x = some (.type n)) (hn : x ≠ "__name__" := by decide) (hd : (x == ("__debug__" : Str)) = false := by decide) : DE G (.Name x pos) (dC (.ty n)) :=
  de_of (fun X e1 e2 e3 => pe_bltn (v := .ty n) (gl_of e3 hg) (by rw [e2]; exact hm) hv rfl hn hd) fun _ => .ty n

/-! ### operators -/
variable {pos : Pos}
abbrev dBin (B : Bs) (k : Nat) (op : Operator) (ta tb : RE) : RE := fun ρ S E Q => ta ρ S E fun x S1 => tb ρ S1 E fun y S2 => sem2 B k (binaryOp op) x y S2 (E ρ) Q
theorem de_bin {op : Operator} (ha : DE G a ta) (hb : DE G b tb) : DE G (.BinOp a op b pos) (dBin G.B G.k op ta tb) := by
  refine ⟨fun {X en W σ H ρ S E pins s Q} z q => wpAny_BinOp (ha.at z q fun v s1 x' H1 W1 o S1 z1 g1 r1 ro q1 => hb.at z1 q1 fun u s2 y' H2 W2 o2 S2 z2 g2 r2 ro2 q2 => ?_)⟩
  exact thn (z2.op2 r1 (ro.go g2) r2 ro2 q2) fun _ _ => ep_back (g1.trans g2 z2.rs.ho)
abbrev dCmp (B : Bs) (k : Nat) (op : CmpOp) (ta tb : RE) : RE := fun ρ S E Q => ta ρ S E fun x S1 => tb ρ S1 E fun y S2 => sem2 B k (compareOp op) x y S2 (E ρ) Q
theorem de_cmp {op : CmpOp} (ha : DE G a ta) (hb : DE G b tb) (h1 : behindInMarks op b = false := by first | exact nobehind _ (by decide) (by decide) | rfl) : DE G (.Compare a [op] [b] pos) (dCmp G.B G.k op ta tb) := by
  refine ⟨fun {X en W σ H ρ S E pins s Q} z q => wpAny_Compare1 (ha.at z q fun v s1 x' H1 W1 o S1 z1 g1 r1 ro q1 => hb.at z1 q1 fun u s2 y' H2 W2 o2 S2 z2 g2 r2 ro2 q2 => ?_) h1⟩
  exact thn (z2.op2 r1 (ro.go g2) r2 ro2 q2) fun _ _ => ep_back (g1.trans g2 z2.rs.ho)
/-- a value as a test -/
abbrev dTest (B : Bs) (k : Nat) (t : RE) : RT := fun ρ S E Q => t ρ S E fun x S1 => semB B k x S1 Q
theorem semB.at {v : V} {o : O} {Q : Bool → Sto → Prop} {u : Value} (z : At G X en W σ H ρ S E pins s) (r : RelV v u) (ro : RepO G.B.K en W H o v) (q : semB G.B G.k o S Q) : wpAny (model X.prog X.w) X.A (truthy u) (TP X pins σ (NxB G.B.K W H Q)) X.xe s :=
  q X en W σ H z.hf.b z.rs.ho v ro pins s u z.I r
theorem dt_cmp {op : CmpOp} (ha : DE G a ta) (hb : DE G b tb) (h1 : behindInMarks op b = false := by first | exact nobehind _ (by decide) (by decide) | rfl) : DT G (.Compare a [op] [b] pos) (dTest G.B G.k (dCmp G.B G.k op ta tb)) := by
  refine ⟨fun {X en W σ H ρ S E pins s Q} z q => wpAny_isTrue_Compare1 (ha.at z q fun v s1 x' H1 W1 o S1 z1 g1 r1 ro q1 => hb.at z1 q1 fun u s2 y' H2 W2 o2 S2 z2 g2 r2 ro2 q2 => ?_) h1⟩
  refine thn (z2.op2 r1 (ro.go g2) r2 ro2 q2) fun c s3 ⟨v', H3, I3, r3, W3, o3, S3, h3, g3, ro3, q3⟩ => ?_
  exact thn (semB.at (z2.next I3 h3 g3) r3 ro3 q3) fun _ _ => tp_back ((g1.trans g2 z2.rs.ho).trans g3 h3)
theorem dt_val {e : Expr} {t : RE} (h : DE G e t) (he : ∀ (env : Env) whole, isTrue e env whole = (do let v ← whole; standAt e.pos; holding [v] (truthy v)) := by intro _ _; rfl) : DT G e (dTest G.B G.k t) := by
  refine ⟨fun {X en W σ H ρ S E pins s Q} z q => isTrue_plain (h.at z q fun v s1 x' H1 W1 o S1 z1 g1 r1 ro q1 => ?_) (he _ _)⟩
  exact thn (semB.at z1 r1 ro q1) fun _ _ => tp_back g1
variable {tA tB : RT} {rest : List Expr}
theorem DW.dt {t : RT} (h : DW G e t) : DT G e t := ⟨fun z q => h.run _ z q⟩
abbrev dAnd (t u : RT) : RT := fun ρ S E Q => t ρ S E fun c S1 => if c = true then u ρ S1 E Q else Q false S1
abbrev dOr (t u : RT) : RT := fun ρ S E Q => t ρ S E fun c S1 => if c = true then Q true S1 else u ρ S1 E Q
abbrev dNot (t : RT) : RT := fun ρ S E Q => t ρ S E fun c S1 => Q (!c) S1
theorem dw_and1 (ha : DT G a tA) : DW G (.BoolOp .And [a] pos) tA := by
  refine ⟨fun wh {X en W σ H ρ S E pins s Q} z q => isTrue_and (thn (ha.run z q) fun c s1 e => ?_)⟩
  cases c with
  | true => exact isTrue_and_nil e
  | false => exact e
theorem dw_or1 (ha : DT G a tA) : DW G (.BoolOp .Or [a] pos) tA := by
  refine ⟨fun wh {X en W σ H ρ S E pins s Q} z q => isTrue_or (thn (ha.run z q) fun c s1 e => ?_)⟩
  cases c with
  | true => exact e
  | false => exact isTrue_or_nil e
theorem dw_and (ha : DT G a tA) (hb : DW G (.BoolOp .And (b :: rest) pos) tB) : DW G (.BoolOp .And (a :: b :: rest) pos) (dAnd tA tB) := by
  refine ⟨fun wh {X en W σ H ρ S E pins s Q} z q => isTrue_and (ha.at z q fun c s1 H1 W1 S1 z1 g1 q1 => ?_)⟩
  cases c with
  | true => exact thn (hb.run wh z1 q1) fun _ _ => tp_back g1
  | false => exact ⟨H1, z1.I, W1, S1, z1.rs.ho, g1, q1⟩
theorem dw_or (ha : DT G a tA) (hb : DW G (.BoolOp .Or (b :: rest) pos) tB) : DW G (.BoolOp .Or (a :: b :: rest) pos) (dOr tA tB) := by
  refine ⟨fun wh {X en W σ H ρ S E pins s Q} z q => isTrue_or (ha.at z q fun c s1 H1 W1 S1 z1 g1 q1 => ?_)⟩
  cases c with
  | true => exact ⟨H1, z1.I, W1, S1, z1.rs.ho, g1, q1⟩
  | false => exact thn (hb.run wh z1 q1) fun _ _ => tp_back g1
theorem dt_not (ha : DT G a tA) : DT G (.UnaryOp .Not a pos) (dNot tA) :=
  ⟨fun {X en W σ H ρ S E pins s Q} z q => isTrue_not (thn (ha.run (Q := fun c S1 => Q (!c) S1) z q) fun c s1 ⟨H1, I1, q1⟩ => ⟨H1, I1, q1⟩)⟩
/-- and, or, not as values: what decides is handed back -/
abbrev dAndV (B : Bs) (k : Nat) (ta tb : RE) : RE := fun ρ S E Q => ta ρ S E fun x S1 => semB B k x S1 fun c S2 => if c = true then tb ρ S2 E Q else Q x S2
theorem de_one {op} {t : RE} (h : DE G a t) : DE G (.BoolOp op [a] pos) t := ⟨fun z q => BoolOp_one (h.run z q)⟩
theorem de_and (ha : DE G a ta) (hb : DE G (.BoolOp .And (b :: rest) pos) tb) : DE G (.BoolOp .And (a :: b :: rest) pos) (dAndV G.B G.k ta tb) := by
  refine ⟨fun {X en W σ H ρ S E pins s Q} z q => BoolOp_and (ha.at z q fun v s1 x' H1 W1 o S1 z1 g1 r1 ro q1 => thn (semB.at z1 r1 ro q1) fun c s2 ⟨H2, I2, W2, S2, h2, g2, q2⟩ => ?_)⟩
  have z2 := z1.next I2 h2 g2
  cases c with
  | true => exact thn (hb.run z2 q2) fun _ _ => ep_back (g1.trans g2 h2)
  | false => exact ⟨x', H2, I2, r1, W2, o, S2, h2, g1.trans g2 h2, ro.go g2, q2⟩
abbrev dNotV (B : Bs) (k : Nat) (ta : RE) : RE := fun ρ S E Q => ta ρ S E fun x S1 => semB B k x S1 fun c S2 => Q (.v (.bl (!c))) S2
theorem de_not (ha : DE G a ta) : DE G (.UnaryOp .Not a pos) (dNotV G.B G.k ta) := by
  refine ⟨fun {X en W σ H ρ S E pins s Q} z q => UnaryOp_ (ha.at z q fun v s1 x' H1 W1 o S1 z1 g1 r1 ro q1 => not_of (thn (semB.at z1 r1 ro q1) fun c s2 ⟨H2, I2, W2, S2, h2, g2, q2⟩ => ?_))⟩
  exact ⟨.bl (!c), H2, I2, rfl, W2, .v (.bl (!c)), S2, h2, g1.trans g2 h2, .bl _, q2⟩
abbrev dIf (t : RT) (ta tb : RE) : RE := fun ρ S E Q => t ρ S E fun c S1 => if c = true then ta ρ S1 E Q else tb ρ S1 E Q
theorem de_if {c : Expr} (hc : DT G c tA) (ha : DE G a ta) (hb : DE G b tb) : DE G (.IfExp c a b pos) (dIf tA ta tb) := by
  refine ⟨fun {X en W σ H ρ S E pins s Q} z q => wpAny_IfExp (hc.at z q fun c s1 H1 W1 S1 z1 g1 q1 => ?_)⟩
  cases c with
  | true => exact thn (ha.run z1 q1) fun _ _ => ep_back g1
  | false => exact thn (hb.run z1 q1) fun _ _ => ep_back g1

end
end Dt

set_option Elab.async false
set_option linter.all false
set_option maxRecDepth 100000
set_option maxHeartbeats 8000000
/-! DatC: new objects, displays, calls, methods, subscripts, slices, attributes -/
namespace Dt
open PySem PySem.Spec PyProof.Rows L2 My
/-! ### new objects -/
section
variable {K : PySem.W.Frag} {en : En} {W : Wd} {H : Hp} {S : Sto} {p : Addr} {o : HO}
/-- a new object that never changes -/
def Wd.frz (W : Wd) (p : Addr) (o : HO) : Wd := ⟨upd W.F p o, W.m, W.n⟩
theorem Wd.frz_le (W : Wd) (n : W.F p = none) : W.Le (W.frz p o) := ⟨fun a u e => by
  show upd W.F p o a = some u
  rw [upd_ne (ne_of_none e n)]
  exact e, Nat.le_refl _, fun _ _ => rfl⟩
theorem Ho.nF (h : Ho K W H S) (n : H p = none) : W.F p = none := by
  cases q : W.F p with
  | none => rfl
  | some u =>
    rw [h.fh p u q] at n
    cases n
theorem RelC.upd {a : Addr} {c : Cell} (l : ∀ d v, Rep K W d v → Rep K W d v) (hp : p ≠ a) (h : RelC K W H a c) : RelC K W (upd H p o) a c := by
  cases c with
  | no => trivial
  | lst xs => exact let ⟨vs, e, r⟩ := h; ⟨vs, by rw [upd_ne hp.symm]; exact e, r⟩
  | dct xs => exact let ⟨vs, e, r⟩ := h; ⟨vs, by rw [upd_ne hp.symm]; exact e, r⟩
  | ins C fs => exact let ⟨dx, vs, e, r⟩ := h; ⟨dx, vs, by rw [upd_ne hp.symm]; exact e, r⟩
  | tbl P q => exact let ⟨e0, ps, e, r⟩ := h; ⟨e0, ps, by rw [upd_ne hp.symm]; exact e, r⟩
  | lck u xs => exact let ⟨e, r⟩ := h; ⟨by rw [upd_ne hp.symm]; exact e, r⟩
theorem RelC.le {W' : Wd} {H' : Hp} {a : Addr} {c : Cell} (l : W.Le W') (k : ∀ o, H a = some o → H' a = some o) (h : RelC K W H a c) : RelC K W' H' a c := by
  cases c with
  | no => trivial
  | lst xs => exact let ⟨vs, e, r⟩ := h; ⟨vs, k _ e, r.le l⟩
  | dct xs => exact let ⟨vs, e, r⟩ := h; ⟨vs, k _ e, r.le l⟩
  | ins C fs => exact let ⟨dx, vs, e, r⟩ := h; ⟨dx, vs, k _ e, r.le l⟩
  | tbl P q => exact let ⟨e0, ps, e, r1, r⟩ := h; ⟨e0, ps, k _ e, r1, fun pos cv z => let ⟨c, z1, z2⟩ := r pos cv z; ⟨c, z1, l.f _ _ z2⟩⟩
  | lck u xs => exact let ⟨e, od, vs, e2, r⟩ := h; ⟨k _ e, od, vs, e2, r.le l⟩
theorem upd_keep {a : Addr} {u : HO} (n : H p = none) (e : H a = some u) : upd H p o a = some u := by
  rw [upd_ne (ne_of_none e n)]
  exact e
theorem Ho.frz (h : Ho K W H S) (n : H p = none) : Ho K (W.frz p o) (upd H p o) S where
  n := h.n
  fh := fun a u e => by
    by_cases z : a = p
    · subst z
      rw [show (W.frz a o).F a = some o from upd_same] at e
      rw [upd_same]
      exact e
    · rw [show (W.frz p o).F a = W.F a from upd_ne z] at e
      rw [upd_ne z]
      exact h.fh a u e
  inj := h.inj
  mF := fun i hi => by
    have q : W.m i ≠ p := fun c => by
      obtain ⟨u, e⟩ := h.there i hi
      rw [c, n] at e
      cases e
    show upd W.F p o (W.m i) = none
    rw [upd_ne q]
    exact h.mF i hi
  there := fun i hi => let ⟨u, e⟩ := h.there i hi; ⟨u, upd_keep n e⟩
  cel := fun i c e => (h.cel i c e).le (W.frz_le (h.nF n)) fun u q => upd_keep n q
theorem Go.frz (h : Ho K W H S) (n : H p = none) : Go W H (W.frz p o) (upd H p o) where
  le := W.frz_le (h.nF n)
  fn := fun a u e => by
    by_cases z : a = p
    · subst z
      exact .inr n
    · rw [show (W.frz p o).F a = W.F a from upd_ne z] at e
      exact .inl e
  kp := fun a u e _ => upd_keep n e
  mn := fun i h1 h2 => absurd h2 (Nat.not_lt.mpr h1)
/-- a new object of the store -/
def Wd.cell (W : Wd) (p : Addr) : Wd := ⟨W.F, fun i => if i = W.n then p else W.m i, W.n + 1⟩
theorem Wd.cell_at {i : Nat} (h : i < W.n) : (W.cell p).m i = W.m i := if_neg (Nat.ne_of_lt h)
theorem Wd.cell_new : (W.cell p).m W.n = p := if_pos rfl
theorem Wd.cell_le : W.Le (W.cell p) := ⟨fun _ _ e => e, Nat.le_succ _, fun i h => Wd.cell_at h⟩
theorem Ho.cell {c : Cell} (h : Ho K W H S) (n : H p = none) (r : RelC K (W.cell p) (upd H p o) p c) : Ho K (W.cell p) (upd H p o) (S ++ [c]) where
  n := by
    show W.n + 1 = _
    rw [h.n, List.length_append] <;> rfl
  fh := fun a u e => upd_keep n (h.fh a u e)
  inj := fun i j hi hj e => by
    have hi : i < W.n + 1 := hi
    have hj : j < W.n + 1 := hj
    have ne : ∀ i, i < W.n → W.m i ≠ p := fun i hi c => by
      obtain ⟨u, e⟩ := h.there i hi
      rw [c, n] at e
      cases e
    by_cases z1 : i = W.n
    · subst z1
      by_cases z2 : j = W.n
      · exact z2.symm
      · rw [Wd.cell_new, Wd.cell_at (by omega)] at e
        exact absurd e.symm (ne j (by omega))
    · by_cases z2 : j = W.n
      · subst z2
        rw [Wd.cell_new, Wd.cell_at (by omega)] at e
        exact absurd e (ne i (by omega))
      · rw [Wd.cell_at (by omega), Wd.cell_at (by omega)] at e
        exact h.inj i j (by omega) (by omega) e
  mF := fun i hi => by
    have hi : i < W.n + 1 := hi
    by_cases z : i = W.n
    · subst z
      rw [Wd.cell_new]
      exact h.nF n
    · rw [Wd.cell_at (by omega)]
      exact h.mF i (by omega)
  there := fun i hi => by
    have hi : i < W.n + 1 := hi
    by_cases z : i = W.n
    · subst z
      rw [Wd.cell_new]
      exact ⟨o, upd_same⟩
    · rw [Wd.cell_at (by omega)]
      exact let ⟨u, e⟩ := h.there i (by omega); ⟨u, upd_keep n e⟩
  cel := fun i d e => by
    by_cases z : i < S.length
    · rw [List.getElem?_append_left z] at e
      rw [Wd.cell_at (by rw [h.n]; exact z)]
      exact (h.cel i d e).le Wd.cell_le fun u q => upd_keep n q
    · rw [List.getElem?_append_right (by omega)] at e
      have z2 : i = S.length := by
        have := (List.getElem?_eq_some_iff.mp e).1
        simp only [List.length_cons, List.length_nil] at this
        omega
      subst z2
      rw [Nat.sub_self, List.getElem?_cons_zero] at e
      cases e
      rw [← h.n, Wd.cell_new]
      exact r
theorem Go.cell (h : Ho K W H S) (n : H p = none) : Go W H (W.cell p) (upd H p o) where
  le := Wd.cell_le
  fn := fun a u e => .inl e
  kp := fun a u e _ => upd_keep n e
  mn := fun i h1 h2 => by
    have h2 : i < W.n + 1 := h2
    have z : i = W.n := by omega
    subst z
    rw [Wd.cell_new]
    exact n
/-- an object of the store changes -/
theorem Ho.put {i : Nat} {c : Cell} (h : Ho K W H S) (hi : i < W.n) (r : RelC K W (L2.upd H (W.m i) o) (W.m i) c) : Ho K W (L2.upd H (W.m i) o) (S.set i c) where
  n := by rw [List.length_set]; exact h.n
  fh := fun a u e => by
    have q : a ≠ W.m i := fun z => by
      rw [z, h.mF i hi] at e
      cases e
    rw [upd_ne q]
    exact h.fh a u e
  inj := h.inj
  mF := h.mF
  there := fun j hj => by
    by_cases z : W.m j = W.m i
    · rw [z]
      exact ⟨o, upd_same⟩
    · rw [upd_ne z]
      exact h.there j hj
  cel := fun j d e => by
    by_cases z : j = i
    · subst z
      rw [List.getElem?_set_self (by rw [← h.n]; exact hi)] at e
      cases e
      exact r
    · rw [List.getElem?_set_ne (Ne.symm z)] at e
      have hj : j < W.n := by
        rw [h.n]
        exact (List.getElem?_eq_some_iff.mp e).1
      have q : W.m j ≠ W.m i := fun c => z (h.inj j i hj hi c)
      exact (h.cel j d e).le .refl fun u y => by
        rw [upd_ne q]
        exact y
theorem Go.put {i : Nat} (hi : i < W.n) : Go W H W (L2.upd H (W.m i) o) where
  le := .refl
  fn := fun a u e => .inl e
  kp := fun a u e n => by
    rw [upd_ne (fun z => n i hi z.symm)]
    exact e
  mn := fun i h1 h2 => absurd h2 (Nat.not_lt.mpr h1)
end

/-! ### argument lists, displays -/
/-- values all of which may be handed on -/
def Sol (os : List O) (ds : List D) : Prop := os = ds.map O.v
theorem Sol.rep {K : PySem.W.Frag} {en : En} {W : Wd} {H : Hp} : ∀ {ds : List D} {vs : List V}, RepOs K en W H (ds.map O.v) vs → Reps K W ds vs
  | [], _, .nil => .nil
  | _ :: ds, _, .cons h t => .cons h (Sol.rep t)
theorem Reps.os {K : PySem.W.Frag} {en : En} {W : Wd} {H : Hp} : ∀ {ds : List D} {vs : List V}, Reps K W ds vs → RepOs K en W H (ds.map O.v) vs
  | _, _, .nil => .nil
  | _, _, .cons h t => .cons h (Reps.os t)
section
variable {G : Cf} {X : Cx} {en : En} {W W1 : Wd} {σ : L2.St} {H H1 : Hp} {ρ : List Sl} {S S1 : Sto} {E : XD} {pins : List (Addr × Obj)} {s s1 : Shared} {e a b c o : Expr} {es : List Expr} {kws : List Keyword} {t ta tb tc te to : RE} {tA tK : RA} {pos p apos : Pos} {x m : Str}
abbrev aNil : RA := fun _ S _ Q => Q [] S
abbrev aCons (ta : RE) (tr : RA) : RA := fun ρ S E Q => ta ρ S E fun x S1 => tr ρ S1 E fun xs S2 => Q (x :: xs) S2
theorem da_nil : DA G [] aNil := ⟨fun pos {X en W σ H ρ S E pins s Q} z q => Calls.spliced_nil ⟨[], H, z.I, .nil, W, [], S, z.rs.ho, .refl, .nil, q⟩⟩
theorem da_cons (ha : DE G e te) (hr : DA G es tA) (hs : ∀ env : Env, starEach (e :: es) env = (false, eval e env) :: starEach es env := by intro _; rfl) : DA G (e :: es) (aCons te tA) := by
  refine ⟨fun pos {X en W σ H ρ S E pins s Q} z q => ?_⟩
  rw [hs]
  show wpAny _ _ (spliced ((false, eval e X.env) :: backTo pos (starEach es X.env))) _ _ s
  refine Calls.spliced_cons (ha.at z q fun u s1 x' H1 W1 o S1 z1 g1 r1 ro q1 => ?_)
  refine hr.at pos z1 q1 fun us s2 vs H2 W2 os S2 z2 g2 r2 ro2 q2 => ?_
  exact ⟨x' :: vs, H2, z2.I, .cons r1 r2, W2, o :: os, S2, z2.rs.ho, g1.trans g2 z2.rs.ho, .cons (ro.go g2) ro2, q2⟩
theorem dk_nil : DK G [] aNil := ⟨fun pos {X en W σ H ρ S E pins s Q} z q => wpAny_evalAll_nil ⟨[], H, z.I, .nil, W, [], S, z.rs.ho, .refl, .nil, q⟩⟩
theorem dk_cons {nm : Option Str} {kpos : Pos} (ha : DE G e te) (hr : DK G kws tK) : DK G (⟨nm, e, kpos⟩ :: kws) (aCons te tK) := by
  refine ⟨fun pos {X en W σ H ρ S E pins s Q} z q => ?_⟩
  show wpAny _ _ (evalAll ((do let v ← eval e X.env; standAt pos; pure v) :: (backToKw pos (keywordEach kws X.env)).map (·.2))) _ _ s
  refine wpAny_evalAll_cons (wpAny_bind (ha.at z q fun u s1 x' H1 W1 o S1 z1 g1 r1 ro q1 => wpAny_bind (wpAny_standAt (wpAny_pure ?_))))
  refine hr.at pos z1 q1 fun us s2 vs H2 W2 os S2 z2 g2 r2 ro2 q2 => ?_
  exact ⟨x' :: vs, H2, z2.I, .cons r1 r2, W2, o :: os, S2, z2.rs.ho, g1.trans g2 z2.rs.ho, .cons (ro.go g2) ro2, q2⟩
def sz (n : Nat) : Prop := n ≤ sizeLine
/-- (a, b), [a, b]: of values; a list may stand in the store -/
abbrev dTup (tA : RA) : RE := fun ρ S E Q => tA ρ S E fun os S1 => ∃ ds, Sol os ds ∧ sz ds.length ∧ Q (.v (.tup ds)) S1
theorem de_tup {x1} (h : DA G es tA) : DE G (.Tuple es x1 pos) (dTup tA) := by
  refine ⟨fun {X en W σ H ρ S E pins s Q} z q => ?_⟩
  refine wpAny_Tuple_spliced (h.at pos z q fun us s1 vs H1 W1 os S1 z1 g1 r1 ro ⟨ds, so, hz, q1⟩ => ?_)
  subst so
  have hr := Sol.rep ro
  have hl : vs.length ≤ sizeLine := by rw [hr.len]; exact hz
  refine ⟨by rw [← r1.length]; exact hl, ?_⟩
  have hf : H1 s1.heap.objs.size = none := z1.I.hok.fresh (Nat.le_refl _)
  refine ⟨.ref s1.heap.objs.size, upd H1 s1.heap.objs.size (.tup vs), z1.I.laid (t' := s1.toks) (fun b u e => Heap.get?_push_of_some _ e) (Nat.le_refl _) ?_, rfl, ?_⟩
  · exact ⟨hl, us, r1, ⟨_, Heap.get?_push_size _ rfl, rfl, _, rfl⟩⟩
  · exact ⟨_, .v (.tup ds), S1, z1.rs.ho.frz hf, g1.trans (Go.frz z1.rs.ho hf) (z1.rs.ho.frz hf), .tup (SqT.of upd_same) (hr.le (W1.frz_le (z1.rs.ho.nF hf))), q1⟩
/-! ### calls -/
/-- a call of an own def, of an own class, wherever no error is handled -/
def sFun (B : Bs) (k : Nat) (fv : Value) (ks : List Str) (ds zs : List D) (S : Sto) (Ex : XS) (Q : QO) : Prop :=
  ∀ (A : Around) (outer : List Env) (s : Shared) (W : Wd) (H : Hp) (en : En) (σ : L2.St) (vs ws : List V) (us us' : List Value), My.RG k A → Env0 B.P B.w B.K B.mg B.base A outer s H → B.K.In s.heap → Ho B.K W H S → Reps B.K W ds vs → Reps B.K W zs ws → Vals vs us → Vals ws us' →
    codeAny (model B.P B.w) A (.call fv ⟨us, ks.zip us'⟩) (CR (L2.CX B.P B.w) outer B.P B.w H s (Nx B.K en W H Q) (WE (XN B.K W H σ Ex) σ)) s
theorem fits_env {B : Bs} {k : Nat} (ft : FitsB B k X en) (I : Inv X pins σ H s) : Env0 B.P B.w B.K B.mg B.base X.A X.stack s H ∧ B.K.In s.heap := by
  have e := I.env0
  rw [ft.P, ft.w, ft.K, ft.mg, ft.base] at e
  exact ⟨e, by rw [← ft.K]; exact I.kIn⟩
theorem sFun.run {B : Bs} {k : Nat} {fv : Value} {ks : List Str} {ds zs : List D} {Ex : XS} {Q : QO} (h : sFun B k fv ks ds zs S Ex Q) (hot : B.hot = false) (ft : FitsB B k X en) (tk : Takes X (XN B.K W H σ Ex)) (ho : Ho B.K W H S) {vs ws : List V} {us us' : List Value} (rd : Reps B.K W ds vs) (rz : Reps B.K W zs ws) (I : Inv X pins σ H s) (rv : Vals vs us) (rw' : Vals ws us') :
    wpAny (model X.prog X.w) X.A (call fv us (ks.zip us')) (EP X pins σ (Nx B.K en W H Q)) X.xe s := by
  obtain ⟨e0, KX⟩ := fits_env ft I
  have key := h X.A X.stack s W H en σ vs ws us us' (ft.rg hot) e0 KX ho rd rz rv rw'
  rw [← ft.P, ← ft.w] at key
  refine wpAny_call (codeAny_mono key fun y s' hq' => ?_)
  match y, hq' with
  | .error er, hq' => exact passAt tk σ pins H s er s' I hq'
  | .ok (.ret u), hq' => exact I.after hq'
theorem At.fn {fv : Value} {ks : List Str} {ds zs : List D} {vs ws : List V} {us us' : List Value} {Q : QO} (hc : G.B.hot = false) (z : At G X en W σ H ρ S E pins s) (q : sFun G.B G.k fv ks ds zs S (E ρ) Q) (rd : RepOs G.B.K en W H (ds.map O.v) vs) (rz : RepOs G.B.K en W H (zs.map O.v) ws) (rv : Vals vs us) (rw' : Vals ws us') :
    wpAny (model X.prog X.w) X.A (call fv us (ks.zip us')) (EP X pins σ (Nx G.B.K en W H Q)) X.xe s := q.run hc z.hf.b z.xn z.rs.ho (Sol.rep rd) (Sol.rep rz) z.I rv rw'
/-- f(..), f a def or a class of the module -/
abbrev dCallF (B : Bs) (k : Nat) (fv : Value) (ks : List Str) (tA tK : RA) : RE := fun ρ S E Q => tA ρ S E fun xs S1 => ∃ ds, Sol xs ds ∧ tK ρ S1 E fun zs S2 => ∃ es, Sol zs es ∧ sFun B k fv ks ds es S2 (E ρ) Q
/-- .. of a built-in -/
abbrev dCall (B : Bs) (k : Nat) (fv : Value) (ks : List Str) (tA tK : RA) : RE := fun ρ S E Q => tA ρ S E fun xs S1 => tK ρ S1 E fun zs S2 => sCall B k fv ks xs zs S2 (E ρ) Q
theorem At.call {fv : Value} {ks : List Str} {xs zs : List O} {xs' zs' : List V} {us ws : List Value} {Q : QO} (z : At G X en W σ H ρ S E pins s) (q : sCall G.B G.k fv ks xs zs S (E ρ) Q) (rx : RepOs G.B.K en W H xs xs') (rz : RepOs G.B.K en W H zs zs') (vx : Vals xs' us) (vz : Vals zs' ws) :
    wpAny (model X.prog X.w) X.A (call fv us (ks.zip ws)) (EP X pins σ (Nx G.B.K en W H Q)) X.xe s := q X en W σ H z.hf.b z.xn z.rs.ho xs' zs' rx rz pins s us ws z.I vx vz
structure Own1 (B : Bs) (x : Str) : Prop where
  g : B.mg x = some (.ref (He.ga B.K x))
  kp : PySem.W.keepIn B.K (.ref (He.ga B.K x)) = true
theorem At.kin (z : At G X en W σ H ρ S E pins s) : G.B.K.In X.base := by
  rw [← z.hf.b.K]
  exact z.I.ok.mod.kin
theorem At.kIn (z : At G X en W σ H ρ S E pins s) : G.B.K.In s.heap := by
  rw [← z.hf.b.K]
  exact z.I.kIn
theorem de_call (hc : G.B.hot = false) (hg : Glb G x) (o : Own1 G.B x) (ha : DA G (e :: es) tA) (hdb : (x == ("__debug__" : Str)) = false := by decide)
    (he : ∀ env : Env, starEach (e :: es) env = (false, eval e env) :: starEach es env := by intro _; rfl) (hpl : ∀ env : Env, (backTo pos (starEach es env)).any (·.1) = false := by intro _; rfl) :
    DE G (.Call (.Name x p) (e :: es) [] pos) (dCallF G.B G.k (.ref (He.ga G.B.K x)) [] tA aNil) := by
  refine ⟨fun {X en W σ H ρ S E pins s Q} z q => wpAny_Call_Name_kw (ld_glob z.I (gl_of z.hf.sc hg) (by rw [z.hf.b.mg]; exact o.g) ?_ hdb)⟩
  refine PySem.W.callWith_K (h₀ := X.base) z.kin o.kp (ha.at pos z q fun us s1 vs H1 W1 os S1 z1 g1 r1 ro ⟨ds, so, es', se, q1⟩ => ⟨z1.kIn, ?_⟩) (he _) (hpl _)
  subst so
  obtain rfl : es' = [] := by cases es' <;> first | rfl | cases se
  exact thn (z1.fn hc (us' := []) q1 ro .nil r1 .nil) fun _ _ => ep_back g1
theorem de_callk {ks : List Str} (hc : G.B.hot = false) (hg : Glb G x) (o : Own1 G.B x) (ha : DA G (e :: es) tA) (hk : DK G kws tK) (hdb : (x == ("__debug__" : Str)) = false := by decide)
    (he : ∀ env : Env, starEach (e :: es) env = (false, eval e env) :: starEach es env := by intro _; rfl) (hall : ∀ env : Env, (backToKw pos (keywordEach kws env)).all (·.1.isSome) = true := by intro _; rfl)
    (hks : ∀ env : Env, (backToKw pos (keywordEach kws env)).filterMap (·.1) = ks := by intro _; rfl) (hpl : ∀ env : Env, ((backTo pos (starEach (e :: es) env)).any (·.1) || (backToKw pos (keywordEach kws env)).any (·.1.isNone)) = false := by intro _; rfl) :
    DE G (.Call (.Name x p) (e :: es) kws pos) (dCallF G.B G.k (.ref (He.ga G.B.K x)) ks tA tK) := by
  refine ⟨fun {X en W σ H ρ S E pins s Q} z q => wpAny_Call_Name_kw (ld_glob z.I (gl_of z.hf.sc hg) (by rw [z.hf.b.mg]; exact o.g) ?_ hdb)⟩
  refine PySem.W.callWith_KW (h₀ := X.base) z.kin o.kp (hall _) (ha.at pos z q fun us s1 vs H1 W1 os S1 z1 g1 r1 ro ⟨ds, so, q1⟩ => hk.at pos z1 q1 fun ws s2 zs H2 W2 os2 S2 z2 g2 r2 ro2 ⟨es', se, q2⟩ => ⟨z2.kIn, ?_⟩) (hpl _) (he _)
  subst so se
  rw [hks]
  exact thn (z2.fn hc q2 (RepOs.go g2 ro) ro2 r1 r2) fun _ _ => ep_back (g1.trans g2 z2.rs.ho)
theorem de_callk0 {ks : List Str} (hc : G.B.hot = false) (hg : Glb G x) (o : Own1 G.B x) (hk : DK G kws tK) (hdb : (x == ("__debug__" : Str)) = false := by decide) (hall : ∀ env : Env, (backToKw pos (keywordEach kws env)).all (·.1.isSome) = true := by intro _; rfl)
    (hks : ∀ env : Env, (backToKw pos (keywordEach kws env)).filterMap (·.1) = ks := by intro _; rfl) (hpl : ∀ env : Env, ((backTo pos (starEach [] env)).any (·.1) || (backToKw pos (keywordEach kws env)).any (·.1.isNone)) = false := by intro _; rfl) :
    DE G (.Call (.Name x p) [] kws pos) (dCallF G.B G.k (.ref (He.ga G.B.K x)) ks aNil tK) := by
  refine ⟨fun {X en W σ H ρ S E pins s Q} z ⟨ds, so, q⟩ => wpAny_Call_Name_kw (ld_glob z.I (gl_of z.hf.sc hg) (by rw [z.hf.b.mg]; exact o.g) ?_ hdb)⟩
  obtain rfl : ds = [] := by cases ds <;> first | rfl | cases so
  refine PySem.W.callWith_KW0 (h₀ := X.base) z.kin o.kp (hall _) (hk.at pos z q fun ws s2 zs H2 W2 os2 S2 z2 g2 r2 ro2 ⟨es', se, q2⟩ => ⟨z2.kIn, ?_⟩) (hpl _)
  subst se
  rw [hks]
  exact thn (z2.fn hc (us := []) q2 .nil ro2 .nil r2) fun _ _ => ep_back g2
/-- a built-in function, a built-in type -/
theorem de_callB {id : String} (hg : Glb G x) (hm : G.B.mg x = none) (hv : bootBuiltins x = some (.builtin id)) (ha : DA G (e :: es) tA) (hn : x ≠ "__name__" := by decide) (hdb : (x == ("__debug__" : Str)) = false := by decide)
    (he : ∀ env : Env, starEach (e :: es) env = (false, eval e env) :: starEach es env := by intro _; rfl) (hpl : ∀ env : Env, (backTo pos (starEach es env)).any (·.1) = false := by intro _; rfl) :
    DE G (.Call (.Name x p) (e :: es) [] pos) (dCall G.B G.k (.builtin id) [] tA aNil) := by
  refine ⟨fun {X en W σ H ρ S E pins s Q} z q => wpAny_Call_Name_kw (ld_blt z.I (gl_of z.hf.sc hg) (by rw [z.hf.b.mg]; exact hm) hv ?_ hn hdb)⟩
  exact PyProof.Rows.callWith_builtin1 (ha.at pos z q fun us s1 vs H1 W1 os S1 z1 g1 r1 ro q1 => thn (z1.call (ws := []) q1 ro .nil r1 .nil) fun _ _ => ep_back g1) (he _) (hpl _)
theorem de_callT {T : String} (hg : Glb G x) (hm : G.B.mg x = none) (hv : bootBuiltins x = some (.type T)) (ha : DA G (e :: es) tA) (hn : x ≠ "__name__" := by decide) (hdb : (x == ("__debug__" : Str)) = false := by decide)
    (he : ∀ env : Env, starEach (e :: es) env = (false, eval e env) :: starEach es env := by intro _; rfl) (hpl : ∀ env : Env, (backTo pos (starEach es env)).any (·.1) = false := by intro _; rfl) :
    DE G (.Call (.Name x p) (e :: es) [] pos) (dCall G.B G.k (.type T) [] tA aNil) := by
  refine ⟨fun {X en W σ H ρ S E pins s Q} z q => wpAny_Call_Name_kw (ld_blt z.I (gl_of z.hf.sc hg) (by rw [z.hf.b.mg]; exact hm) hv ?_ hn hdb)⟩
  exact PyProof.Rows.callWith_type1 (ha.at pos z q fun us s1 vs H1 W1 os S1 z1 g1 r1 ro q1 => thn (z1.call (ws := []) q1 ro .nil r1 .nil) fun _ _ => ep_back g1) (he _) (hpl _)
/-- a callable that stands in a slot: a def or a class of the module -/
def Fv (K : PySem.W.Frag) : D → Value → Prop
  | .cls C, v => v = .ref (He.ga K C)
  | .fn f, v => v = .ref (He.ga K f)
  | _, _ => False
theorem fv_eq {K : PySem.W.Frag} {W : Wd} {d : D} {fv : Value} {x : V} {u : Value} (h : Fv K d fv) (r : Rep K W d x) (rv : RelV x u) : u = fv := by
  cases r with
  | cls C => exact (show u = _ from rv).trans (show fv = _ from h).symm
  | fn f => exact (show u = _ from rv).trans (show fv = _ from h).symm
  | _ => exact h.elim
/-! ### methods of built-in types -/
/-- o.name(..): the type's method id -/
abbrev dBM0 (B : Bs) (k : Nat) (T id : String) (to : RE) : RE := fun ρ S E Q => to ρ S E fun x S1 => isT T x S1 ∧ sCall B k (.builtin id) [] [x] [] S1 (E ρ) Q
where isT (T : String) : O → Sto → Prop
  | .v (.str _), _ => T = "str"
  | .v (.lst _), _ => T = "list"
  | .b _, _ => T = "list"
  | .v (.ptr i), S => (T = "list" ∧ ∃ xs, S[i]? = some (.lst xs)) ∨ (T = "dict" ∧ ∃ xs, S[i]? = some (.dct xs))
  | .v (.dct _), _ => T = "dict"
  | .bd _, _ => T = "dict"
  | _, _ => False
abbrev dBM (B : Bs) (k : Nat) (T id : String) (to : RE) (tA : RA) : RE := fun ρ S E Q => to ρ S E fun x S1 => dBM0.isT T x S1 ∧ tA ρ S1 E fun xs S2 => sCall B k (.builtin id) [] (x :: xs) [] S2 (E ρ) Q
theorem isT_ty {T : String} {o : O} {v : V} {K : PySem.W.Frag} (ho : Ho K W H S) (h : dBM0.isT T o S) (r : RepO K en W H o v) : tyV K T v H := by
  cases o with
  | v d =>
    cases r with
    | str x => exact h
    | lst q r => exact .inl ⟨h, _, .inl (rd_le ho.fh q)⟩
    | dct q r => exact .inr (.inr (.inl ⟨h, .inl ⟨_, ho.fh _ _ q⟩⟩))
    | ptr hi =>
      rcases h with ⟨e, xs, q⟩ | ⟨e, xs, q⟩
      · obtain ⟨vs, q2, _⟩ := ho.cel _ _ q
        exact .inl ⟨e, vs, SqL.of q2⟩
      · obtain ⟨vs, q2, _⟩ := ho.cel _ _ q
        exact .inr (.inr (.inl ⟨e, .inl ⟨vs, q2⟩⟩))
    | _ => exact h.elim
  | b xs =>
    obtain ⟨a, vs, rfl, q, _⟩ := r
    exact .inl ⟨h, vs, SqL.of q⟩
  | bd xs =>
    obtain ⟨a, vs, rfl, q, _⟩ := r
    exact .inr (.inr (.inl ⟨h, .inl ⟨vs, q⟩⟩))
  | s C fs => exact h.elim
theorem de_bm0 {T id : String} {name : Str} {cpos : Pos} (pa : PlainAttrs T) (slot : Slot T name id) (hty : typeOf (.builtin id) = pure (.type "method_descriptor")) (ho : DE G o to)
    (hbase : ∀ env : Env, attributeBase o name env (eval o env) = eval o env := by intro _; rfl) (hline : (apos.endLine == cpos.line) = true := by rfl) : DE G (.Call (.Attribute o name apos) [] [] cpos) (dBM0 G.B G.k T id to) := by
  refine ⟨fun {X en W σ H ρ S E pins s Q} z q => wpAny_Call_method0_late (hbase _) hline (ho.at z q fun v s1 x' H1 W1 o1 S1 z1 g1 r1 ro ⟨ty, q1⟩ => ?_)⟩
  obtain ⟨h1, h2⟩ := tyV_is z1.I r1 (by rw [z.hf.b.K]; exact isT_ty z1.rs.ho ty ro)
  refine ⟨T, id, pa, slot, hty, h1, h2, Calls.callWith_builtin rfl (PySem.evalArgs_none ?_)⟩
  exact thn (z1.call (us := [v]) (ws := []) q1 (.cons ro .nil) .nil (.cons r1 .nil) .nil) fun _ _ => ep_back g1
theorem de_bm {T id : String} {name : Str} {cpos : Pos} (pa : PlainAttrs T) (slot : Slot T name id) (hty : typeOf (.builtin id) = pure (.type "method_descriptor")) (ho : DE G o to) (ha : DA G (e :: es) tA)
    (hbase : ∀ env : Env, attributeBase o name env (eval o env) = eval o env := by intro _; rfl)
    (hfew : ∀ env : Env, ((backTo cpos (starEach (e :: es) env)).all (fun x => !x.1) && (backToKw cpos (keywordEach [] env)).all (fun x => x.1.isSome)
      && decide ((e :: es).length + ([] : List Keyword).length + (if ([] : List Keyword).isEmpty then 0 else 1) < 30)) = true := by intro _; rfl)
    (hline : (apos.endLine == cpos.line) = true := by rfl) (hs : ∀ env : Env, starEach (e :: es) env = (false, eval e env) :: starEach es env := by intro _; rfl) (hplain : ∀ env : Env, (backTo cpos (starEach es env)).any (·.1) = false := by intro _; rfl) :
    DE G (.Call (.Attribute o name apos) (e :: es) [] cpos) (dBM G.B G.k T id to tA) := by
  refine ⟨fun {X en W σ H ρ S E pins s Q} z q => wpAny_Call_method_late (hbase _) (hfew _) hline rfl (ho.at z q fun v s1 x' H1 W1 o1 S1 z1 g1 r1 ro ⟨ty, q1⟩ => ?_)⟩
  obtain ⟨h1, h2⟩ := tyV_is z1.I r1 (by rw [z.hf.b.K]; exact isT_ty z1.rs.ho ty ro)
  refine ⟨T, id, pa, slot, hty, h1, h2, ?_⟩
  have hA := ha.at (P := fun us s2 => wpAny (model X.prog X.w) X.A (call (.builtin id) (v :: us)) (EP X pins σ (Nx G.B.K en W H Q)) X.xe s2) cpos z1 q1 fun us s2 vs H2 W2 os S2 z2 g2 r2 ro2 q2 =>
    thn (z2.call (us := v :: us) (ws := []) q2 (.cons (ro.go g2) ro2) .nil (.cons r1 r2) .nil) fun _ _ => ep_back (g1.trans g2 z2.rs.ho)
  rw [hs] at hA ⊢
  refine Calls.callWith_builtin (by show (false || (backTo cpos (starEach es X.env)).any (·.1)) = false; rw [hplain] <;> rfl) (Calls.evalArgs_plain hA)

/-! ### subscripts, slices, attributes -/
/-- x[y] -/
def sIx (B : Bs) (k : Nat) (x y : O) (S : Sto) (Ex : XS) (Q : QO) : Prop :=
  ∀ (X : Cx) (en : En) (W : Wd) (σ : L2.St) (H : Hp), FitsB B k X en → Takes X (XN B.K W H σ Ex) → Ho B.K W H S → ∀ x' y', RepO B.K en W H x x' → RepO B.K en W H y y' →
    ∀ (value slice : Expr) (pins : List (Addr × Obj)) (s : Shared) (v u : Value), Inv X pins σ H s → RelV x' v → RelV y' u → subscripted slice false v u = operate [v, u] (getItem v u) → wpAny (model X.prog X.w) X.A (subscriptTail value slice v u) (EP X pins σ (Nx B.K en W H Q)) X.xe s
abbrev dIx (B : Bs) (k : Nat) (ta tb : RE) : RE := fun ρ S E Q => ta ρ S E fun x S1 => tb ρ S1 E fun y S2 => sIx B k x y S2 (E ρ) Q
theorem de_ix (ha : DE G a ta) (hb : DE G b tb) (hs : PlainIx b) : DE G (.Subscript a b pos) (dIx G.B G.k ta tb) := by
  refine ⟨fun {X en W σ H ρ S E pins s Q} z q => Subscript_ (ha.at z q fun v s1 x' H1 W1 o S1 z1 g1 r1 ro q1 => hb.at z1 q1 fun u s2 y' H2 W2 o2 S2 z2 g2 r2 ro2 q2 => ?_)⟩
  exact thn (q2 X en W2 σ H2 z2.hf.b z2.xn z2.rs.ho x' y' (ro.go g2) ro2 a b pins s2 v u z2.I r1 r2 (hs _ _)) fun _ _ => ep_back (g1.trans g2 z2.rs.ho)
/-- a slice's part -/
abbrev RO := List Sl → Sto → XD → (Option Int → Sto → Prop) → Prop
structure DO (G : Cf) (e : Option Expr) (t : RO) : Prop where
  run : ∀ {X en W σ H ρ S E pins s Q}, At G X en W σ H ρ S E pins s → t ρ S E Q → wpAny (model X.prog X.w) X.A (evalPart e X.env) (fun u s' => ∃ o H' W' S', At G X en W' σ H' ρ S' E pins s' ∧ Go W H W' H' ∧ IsPart u o ∧ Q o S') X.xe s
abbrev oNo : RO := fun _ S _ Q => Q none S
abbrev oSome (t : RE) : RO := fun ρ S E Q => t ρ S E fun x S1 => ∃ i, x = .v (.int i) ∧ Q (some i) S1
theorem do_no : DO G none oNo := by
  refine ⟨fun {X en W σ H ρ S E pins s Q} z q => ?_⟩
  rw [evalPart_none]
  exact wpAny_pure ⟨none, H, W, S, z, .refl, .none, q⟩
theorem do_some (h : DE G e te) : DO G (some e) (oSome te) := by
  refine ⟨fun {X en W σ H ρ S E pins s Q} z q => ?_⟩
  rw [evalPart_some]
  refine h.at z q fun u s1 x' H1 W1 o S1 z1 g1 r1 ro ⟨i, e1, q1⟩ => ?_
  subst e1
  cases ro
  obtain ⟨t, rfl⟩ := r1
  exact ⟨some i, H1, W1, S1, z1, g1, .int i t, q1⟩
/-- x[lo:hi] -/
def sSl (B : Bs) (k : Nat) (x : O) (lo hi : Option Int) (S : Sto) (Q : QO) : Prop :=
  ∀ (X : Cx) (en : En) (W : Wd) (σ : L2.St) (H : Hp), FitsB B k X en → Ho B.K W H S → ∀ x', RepO B.K en W H x x' →
    ∀ (pins : List (Addr × Obj)) (s : Shared) (v vl vu : Value) (sl : Addr), Inv X pins σ H s → RelV x' v → s.heap.IsSliceOf sl vl vu .none → IsPart vl lo → IsPart vu hi →
    ∃ T id, typeLookup (.type T) "__getitem__" = pure (some (.builtin id)) ∧ s.TypeIs v T ∧ wpAny (model X.prog X.w) X.A (getItem v (.ref sl)) (EP X pins σ (Nx B.K en W H Q)) X.xe s
abbrev dSl (B : Bs) (k : Nat) (ta : RE) (tl th : RO) : RE := fun ρ S E Q => ta ρ S E fun x S1 => tl ρ S1 E fun l S2 => th ρ S2 E fun u S3 => sSl B k x l u S3 Q
theorem de_sl {lo hi : Option Expr} {tl th : RO} {p2 : Pos} (he : DE G e te) (hl : DO G lo tl) (hu : DO G hi th) : DE G (.Subscript e (.Slice lo hi none p2) pos) (dSl G.B G.k te tl th) := by
  refine ⟨fun {X en W σ H ρ S E pins s Q} z q => Subscript_ (he.at z q fun v s1 x' H1 W1 o S1 z1 g1 r1 ro q1 => ?_)⟩
  refine wpAny_Slice (thn (hl.run z1 q1) fun vl s2 ⟨l, H2, W2, S2, z2, g2, pl, q2⟩ => thn (hu.run z2 q2) fun vu s3 ⟨u, H3, W3, S3, z3, g3, pu, q3⟩ => ?_)
  rw [evalPart_none]
  refine wpAny_pure ?_
  have I4 : Inv X pins σ H3 { s3 with heap := s3.heap.push { cls := .type "slice", data := .fields #[vl, vu, .none] } } := z3.I.kept (t' := s3.toks) fun b ob q => Heap.get?_push_of_some _ q
  obtain ⟨T, id, hT, ht, hg⟩ := q3 X en W3 σ H3 z3.hf.b z3.rs.ho x' (ro.go (g2.trans g3 z3.rs.ho)) pins _ v vl vu s3.heap.objs.size I4 r1 (Heap.IsSliceOf.new ..) pl pu
  show wpAny (model X.prog X.w) X.A (subscriptTail e (.Slice lo hi none p2) v (.ref s3.heap.objs.size)) (EP X pins σ (Nx G.B.K en W H Q)) X.xe { s3 with heap := s3.heap.push { cls := .type "slice", data := .fields #[vl, vu, .none] } }
  exact tail_any (ops := [.ref s3.heap.objs.size, v]) ht hT (thn hg fun _ _ => ep_back ((g1.trans g2 z2.rs.ho).trans g3 z3.rs.ho)) (by with_unfolding_all rfl)
/-- x.f -/
def sAttr (B : Bs) (k : Nat) (f : Str) (x : O) (S : Sto) (Ex : XS) (Q : QO) : Prop := sem1 B k (fun v => getAttr v f true) x S Ex Q
abbrev dAttr (B : Bs) (k : Nat) (f : Str) (ta : RE) : RE := fun ρ S E Q => ta ρ S E fun x S1 => sAttr B k f x S1 (E ρ) Q
theorem de_attr {f : Str} (he : DE G e te) (hab : ∀ env : Env, attributeBase e f env (eval e env) = eval e env := by intro _; rfl) : DE G (.Attribute e f pos) (dAttr G.B G.k f te) :=
  ⟨fun {X en W σ H ρ S E pins s Q} z q => attr_of (hab _) (he.at z q fun v s1 x' H1 W1 o S1 z1 g1 r1 ro q1 => thn (z1.op1 (f := fun v => getAttr v f true) r1 ro q1) fun _ _ => ep_back g1)⟩
end
end Dt

set_option Elab.async false
set_option linter.all false
set_option maxRecDepth 100000
set_option maxHeartbeats 8000000
/-! DatD: statements, targets, loops, comprehensions -/
namespace Dt
open PySem PySem.Spec PyProof.Rows L2 My
structure DEnds where
  nx : List Sl → Sto → Prop
  rt : D → List Sl → Sto → Prop
  bk : List Sl → Sto → Prop
  ct : List Sl → Sto → Prop
  ex : XD
abbrev RS := DEnds → List Sl → Sto → Prop
def ends (K : PySem.W.Frag) (en : En) (W : Wd) (D : DEnds) : Ends where
  nx := fun σ' H' => ∃ W' ρ' S', Rs K en W' σ' H' ρ' S' ∧ W.Le W' ∧ D.nx ρ' S'
  rt := fun v H' => ∃ W' σ' ρ' d S', Rs K en W' σ' H' ρ' S' ∧ W.Le W' ∧ Rep K W' d v ∧ D.rt d ρ' S'
  bk := fun σ' H' => ∃ W' ρ' S', Rs K en W' σ' H' ρ' S' ∧ W.Le W' ∧ D.bk ρ' S'
  ct := fun σ' H' => ∃ W' ρ' S', Rs K en W' σ' H' ρ' S' ∧ W.Le W' ∧ D.ct ρ' S'
theorem sp_back {X : Cx} {pins : List (Addr × Obj)} {K : PySem.W.Frag} {en : En} {W W1 : Wd} {D : DEnds} {f : Flow} {s' : Shared} (l : W.Le W1) (h : SP X pins (ends K en W1 D) f s') : SP X pins (ends K en W D) f s' := by
  cases f with
  | next => exact let ⟨σ, H, I, W', ρ, S, r, l2, q⟩ := h; ⟨σ, H, I, W', ρ, S, r, l.trans l2, q⟩
  | brk => exact let ⟨σ, H, I, W', ρ, S, r, l2, q⟩ := h; ⟨σ, H, I, W', ρ, S, r, l.trans l2, q⟩
  | cont => exact let ⟨σ, H, I, W', ρ, S, r, l2, q⟩ := h; ⟨σ, H, I, W', ρ, S, r, l.trans l2, q⟩
  | ret v => exact let ⟨v, σ, H, I, r0, W', σ', ρ, d, S, r, l2, rp, q⟩ := h; ⟨v, σ, H, I, r0, W', σ', ρ, d, S, r, l.trans l2, rp, q⟩
structure DS (G : Cf) (st : Stmt) (t : RS) : Prop where
  run : ∀ {X en W σ H ρ S pins s D}, At G X en W σ H ρ S D.ex pins s → t D ρ S → wpAny (model X.prog X.w) X.A (exec st X.env) (SP X pins (ends G.B.K en W D)) X.xe s
structure DSs (G : Cf) (st : List Stmt) (t : RS) : Prop where
  run : ∀ {X en W σ H ρ S pins s D}, At G X en W σ H ρ S D.ex pins s → t D ρ S → wpAny (model X.prog X.w) X.A (execs st X.env) (SP X pins (ends G.B.K en W D)) X.xe s

/-! ### slots -/
section
variable {K : PySem.W.Frag} {en : En} {W : Wd} {σ : L2.St} {H : Hp} {ρ : List Sl} {S : Sto}
/-- an own list, an own dict becomes a value; a slot is forgotten -/
inductive Fz : List Sl → List Sl → Prop where
  | refl {ρ : List Sl} : Fz ρ ρ
  | frz {ρ ρ' : List Sl} (i : Nat) {xs : List D} (e : ρ[i]? = some (.ol xs)) (h : Fz (ρ.set i (.sh (.lst xs))) ρ') : Fz ρ ρ'
  | frd {ρ ρ' : List Sl} (i : Nat) {xs : List (Key × D)} (e : ρ[i]? = some (.od xs)) (h : Fz (ρ.set i (.sh (.dct xs))) ρ') : Fz ρ ρ'
  | off {ρ ρ' : List Sl} (i : Nat) (h : Fz (ρ.set i .un) ρ') : Fz ρ ρ'
theorem RelS.own {s : Sl} {v : V} (h : RelS K en W H (some (some v)) s) (o : isOwn s = true) : ∃ a u, v = .ref a ∧ H a = some u ∧ Own en W H a := by
  cases s with
  | ol xs =>
    obtain ⟨a, vs, e, q, r, w⟩ := h
    exact ⟨a, _, Option.some.inj (Option.some.inj e), q, w⟩
  | od xs =>
    obtain ⟨a, vs, e, q, r, w⟩ := h
    exact ⟨a, _, Option.some.inj (Option.some.inj e), q, w⟩
  | slf C xs =>
    obtain ⟨a, vs, e, q, r, w⟩ := h
    exact ⟨_, _, Option.some.inj (Option.some.inj e), q, w⟩
  | _ => cases o
/-- a slot gets a value that is no own object -/
theorem Rs.set (r : Rs K en W σ H ρ S) (i : Nat) {s : Sl} {v : Option V} (hs : isOwn s = false) (h : RelS K en W H (some v) s) : Rs K en W (σ.set i v) H (ρ.set i s) S where
  ho := r.ho
  go := r.go
  len := by rw [List.length_set, List.length_set]; exact r.len
  sl := fun j t e => by
    by_cases z : i = j
    · subst z
      have hi : i < ρ.length := by
        have := (List.getElem?_eq_some_iff.mp e).1
        rw [List.length_set] at this
        exact this
      rw [List.getElem?_set_self hi] at e
      cases e
      rw [List.getElem?_set_self (by rw [← r.len]; exact hi)]
      exact h
    · rw [List.getElem?_set_ne z] at e
      rw [List.getElem?_set_ne z]
      exact r.sl j t e
  dis := fun j l t u a ne e1 o1 e2 o2 q1 q2 => by
    have hj : i ≠ j := fun z => by
      subst z
      rw [List.getElem?_set_self (by have := (List.getElem?_eq_some_iff.mp e1).1; rw [List.length_set] at this; exact this)] at e1
      cases e1
      rw [hs] at o1
      cases o1
    have hl : i ≠ l := fun z => by
      subst z
      rw [List.getElem?_set_self (by have := (List.getElem?_eq_some_iff.mp e2).1; rw [List.length_set] at this; exact this)] at e2
      cases e2
      rw [hs] at o2
      cases o2
    rw [List.getElem?_set_ne hj] at e1 q1
    rw [List.getElem?_set_ne hl] at e2 q2
    exact r.dis j l t u a ne e1 o1 e2 o2 q1 q2
/-- a slot gets an own object that no other slot has -/
theorem Rs.setO (r : Rs K en W σ H ρ S) (i : Nat) {s : Sl} {a : Addr} (h : RelS K en W H (some (some (.ref a))) s) (n : ∀ (j : Nat) (t : Sl), i ≠ j → ρ[j]? = some t → isOwn t = true → σ[j]? = some (some (.ref a)) → False) : Rs K en W (σ.set i (some (.ref a))) H (ρ.set i s) S where
  ho := r.ho
  go := r.go
  len := by rw [List.length_set, List.length_set]; exact r.len
  sl := fun j t e => by
    by_cases z : i = j
    · subst z
      have hi : i < ρ.length := by
        have := (List.getElem?_eq_some_iff.mp e).1
        rw [List.length_set] at this
        exact this
      rw [List.getElem?_set_self hi] at e
      cases e
      rw [List.getElem?_set_self (by rw [← r.len]; exact hi)]
      exact h
    · rw [List.getElem?_set_ne z] at e
      rw [List.getElem?_set_ne z]
      exact r.sl j t e
  dis := fun j l t u b ne e1 o1 e2 o2 q1 q2 => by
    have at_i : ∀ {j : Nat} {b : Addr}, i = j → (σ.set i (some (.ref a)))[j]? = some (some (.ref b)) → b = a := fun {j b} z q => by
      subst z
      have hi : i < σ.length := by
        have := (List.getElem?_eq_some_iff.mp q).1
        rw [List.length_set] at this
        exact this
      rw [List.getElem?_set_self hi] at q
      cases q
      rfl
    by_cases hj : i = j
    · by_cases hl : i = l
      · exact ne (hj.symm.trans hl)
      · obtain rfl := at_i hj q1
        rw [List.getElem?_set_ne hl] at e2 q2
        exact n l u hl e2 o2 q2
    · by_cases hl : i = l
      · obtain rfl := at_i hl q2
        rw [List.getElem?_set_ne hj] at e1 q1
        exact n j t hj e1 o1 q1
      · rw [List.getElem?_set_ne hj] at e1 q1
        rw [List.getElem?_set_ne hl] at e2 q2
        exact r.dis j l t u b ne e1 o1 e2 o2 q1 q2
/-- the own object at slot i changes its world: it is frozen -/
theorem Rs.freeze (r : Rs K en W σ H ρ S) {i : Nat} {s : Sl} {a : Addr} {u : HO} {d : D} (e : ρ[i]? = some s) (o : isOwn s = true) (q : σ[i]? = some (some (.ref a))) (hu : H a = some u) (w : Own en W H a)
    (rp : Rep K (W.frz a u) d (.ref a)) : Rs K en (W.frz a u) σ H (ρ.set i (.sh d)) S := by
  have nf : W.Le (W.frz a u) := W.frz_le w.f
  have ho : Ho K (W.frz a u) H S := ⟨r.ho.n, fun b x z => by
    by_cases c : b = a
    · subst c
      rw [show (W.frz b u).F b = some u from upd_same] at z
      rw [hu]
      exact z
    · rw [show (W.frz a u).F b = W.F b from upd_ne c] at z
      exact r.ho.fh b x z, r.ho.inj, fun j hj => by
    show upd W.F a u (W.m j) = none
    rw [upd_ne (w.m j hj)]
    exact r.ho.mF j hj, r.ho.there, fun j c z => (r.ho.cel j c z).le nf fun x y => y⟩
  have go : Go en.W en.H (W.frz a u) H := ⟨r.go.le.trans nf, fun b x z => by
    by_cases c : b = a
    · subst c
      exact .inr w.e
    · rw [show (W.frz a u).F b = W.F b from upd_ne c] at z
      exact r.go.fn b x z, r.go.kp, r.go.mn⟩
  refine ⟨ho, go, by rw [List.length_set]; exact r.len, fun j t z => ?_, fun j l t x b ne e1 o1 e2 o2 q1 q2 => ?_⟩
  · by_cases c : i = j
    · subst c
      rw [List.getElem?_set_self (List.getElem?_eq_some_iff.mp e).1] at z
      cases z
      exact ⟨_, q, rp⟩
    · rw [List.getElem?_set_ne c] at z
      have h := r.sl j t z
      have far : ∀ b, isOwn t = true → σ[j]? = some (some (.ref b)) → Own en W H b → Own en (W.frz a u) H b := fun b o2 q2 w2 => by
        have ba : b ≠ a := fun y => by
          subst y
          exact r.dis i j s t b c e o z o2 q q2
        exact ⟨(show upd W.F a u b = none by rw [upd_ne ba]; exact w2.f), w2.e, w2.m⟩
      cases t with
      | un => trivial
      | sh d => exact let ⟨v, e, k⟩ := h; ⟨v, e, k.le nf⟩
      | ol xs => exact let ⟨b, vs, e1, k, k2, k3⟩ := h; ⟨b, vs, e1, k, k2.le nf, far b rfl e1 k3⟩
      | od xs => exact let ⟨b, vs, e1, k, k2, k3⟩ := h; ⟨b, vs, e1, k, k2.le nf, far b rfl e1 k3⟩
      | slf C xs => exact let ⟨dx, vs, e1, k, k2, k3⟩ := h; ⟨dx, vs, e1, k, k2.le nf, far en.me rfl e1 k3⟩
      | exc C xs => exact let ⟨p, e1, k, k2⟩ := h; ⟨p, e1, k, k2.le nf⟩
  · have hj : i ≠ j := fun z => by
      subst z
      rw [List.getElem?_set_self (List.getElem?_eq_some_iff.mp e).1] at e1
      cases e1
      cases o1
    have hl : i ≠ l := fun z => by
      subst z
      rw [List.getElem?_set_self (List.getElem?_eq_some_iff.mp e).1] at e2
      cases e2
      cases o2
    rw [List.getElem?_set_ne hj] at e1
    rw [List.getElem?_set_ne hl] at e2
    exact r.dis j l t x b ne e1 o1 e2 o2 q1 q2
theorem Rs.fz {ρ' : List Sl} (z : Fz ρ ρ') : ∀ {W : Wd}, Rs K en W σ H ρ S → ∃ W', Rs K en W' σ H ρ' S ∧ W.Le W' := by
  induction z with
  | refl => exact fun r => ⟨_, r, .refl⟩
  | frz i e _ ih =>
    intro W r
    obtain ⟨a, vs, q, hu, k, w⟩ := r.sl i _ e
    obtain ⟨W', r', l⟩ := ih (r.freeze e rfl q hu w (.lst (.inl upd_same) (k.le (W.frz_le w.f))))
    exact ⟨W', r', (W.frz_le w.f).trans l⟩
  | frd i e _ ih =>
    intro W r
    obtain ⟨a, vs, q, hu, k, w⟩ := r.sl i _ e
    obtain ⟨W', r', l⟩ := ih (r.freeze e rfl q hu w (.dct upd_same (k.le (W.frz_le w.f))))
    exact ⟨W', r', (W.frz_le w.f).trans l⟩
  | @off ρ0 ρ1 i _ ih =>
    intro W r
    refine ih ⟨r.ho, r.go, by rw [List.length_set]; exact r.len, fun j t z => ?_, fun j l t x b ne e1 o1 e2 o2 q1 q2 => ?_⟩
    · by_cases c : i = j
      · subst c
        rw [List.getElem?_set_self (by have := (List.getElem?_eq_some_iff.mp z).1; rw [List.length_set] at this; exact this)] at z
        cases z
        trivial
      · rw [List.getElem?_set_ne c] at z
        exact r.sl j t z
    · have hj : i ≠ j := fun z => by
        subst z
        rw [List.getElem?_set_self (by have := (List.getElem?_eq_some_iff.mp e1).1; rw [List.length_set] at this; exact this)] at e1
        cases e1
        cases o1
      have hl : i ≠ l := fun z => by
        subst z
        rw [List.getElem?_set_self (by have := (List.getElem?_eq_some_iff.mp e2).1; rw [List.length_set] at this; exact this)] at e2
        cases e2
        cases o2
      rw [List.getElem?_set_ne hj] at e1
      rw [List.getElem?_set_ne hl] at e2
      exact r.dis j l t x b ne e1 o1 e2 o2 q1 q2
/-- what an own slot holds changes -/
theorem Rs.put (r : Rs K en W σ H ρ S) {i : Nat} {s s' : Sl} {a : Addr} {u : HO} (e : ρ[i]? = some s) (o : isOwn s = true) (o' : isOwn s' = true) (q : σ[i]? = some (some (.ref a))) (w : Own en W H a)
    (h : RelS K en W (upd H a u) (some (some (.ref a))) s') : Rs K en W σ (upd H a u) (ρ.set i s') S where
  ho := ⟨r.ho.n, fun b x z => by
    have c : b ≠ a := fun y => by
      rw [y, w.f] at z
      cases z
    rw [upd_ne c]
    exact r.ho.fh b x z, r.ho.inj, r.ho.mF, fun j hj => by
    rw [upd_ne (w.m j hj)]
    exact r.ho.there j hj, fun j c z => by
    have hj : j < W.n := by
      rw [r.ho.n]
      exact (List.getElem?_eq_some_iff.mp z).1
    exact (r.ho.cel j c z).le .refl fun x y => by rw [upd_ne (w.m j hj)]; exact y⟩
  go := ⟨r.go.le, r.go.fn, fun b x z n => by
    have c : b ≠ a := fun y => by
      rw [y, w.e] at z
      cases z
    rw [upd_ne c]
    exact r.go.kp b x z n, r.go.mn⟩
  len := by rw [List.length_set]; exact r.len
  sl := fun j t z => by
    by_cases c : i = j
    · subst c
      rw [List.getElem?_set_self (List.getElem?_eq_some_iff.mp e).1] at z
      cases z
      rw [q]
      exact h
    · rw [List.getElem?_set_ne c] at z
      have h := r.sl j t z
      have far : ∀ b x, isOwn t = true → σ[j]? = some (some (.ref b)) → H b = some x → upd H a u b = some x := fun b x o2 q2 k => by
        rw [upd_ne (fun y => by
          subst y
          exact r.dis i j s t b c e o z o2 q q2)]
        exact k
      have far2 : ∀ b, Own en W H b → Own en W (upd H a u) b := fun b w => ⟨w.f, w.e, w.m⟩
      cases t with
      | un => trivial
      | sh d => exact h
      | ol xs => exact let ⟨b, vs, e1, k, k2, k3⟩ := h; ⟨b, vs, e1, far b _ rfl e1 k, k2, far2 b k3⟩
      | od xs => exact let ⟨b, vs, e1, k, k2, k3⟩ := h; ⟨b, vs, e1, far b _ rfl e1 k, k2, far2 b k3⟩
      | slf C xs => exact let ⟨dx, vs, e1, k, k2, k3⟩ := h; ⟨dx, vs, e1, far en.me _ rfl e1 k, k2, far2 en.me k3⟩
      | exc C xs => exact h
  dis := fun j l t x b ne e1 o1 e2 o2 q1 q2 => by
    have back : ∀ {j : Nat} {t : Sl}, (ρ.set i s')[j]? = some t → isOwn t = true → ∃ t', ρ[j]? = some t' ∧ isOwn t' = true := fun {j t} z o => by
      by_cases c : i = j
      · subst c
        exact ⟨s, e, by assumption⟩
      · rw [List.getElem?_set_ne c] at z
        exact ⟨t, z, o⟩
    obtain ⟨t1, y1, p1⟩ := back e1 o1
    obtain ⟨t2, y2, p2⟩ := back e2 o2
    exact r.dis j l t1 t2 b ne y1 p1 y2 p2 q1 q2
end

section
variable {G : Cf} {X : Cx} {en : En} {W W1 : Wd} {σ : L2.St} {H H1 : Hp} {ρ : List Sl} {S S1 : Sto} {pins : List (Addr × Obj)} {s s1 : Shared} {e a b c o : Expr} {es : List Expr} {t ta tb tc te to : RE} {tA tK : RA} {pos p apos : Pos} {x m : Str} {st : Stmt} {rest : List Stmt} {ts us : RS}
theorem At.sp {D : DEnds} (z : At G X en W σ H ρ S D.ex pins s) (q : D.nx ρ S) : SP X pins (ends G.B.K en W D) .next s := ⟨σ, H, z.I, W, ρ, S, z.rs, .refl, q⟩
/-! ### blocks -/
def dSeq (t u : RS) : RS := fun D ρ S => ∃ ρ', Fz ρ ρ' ∧ t { D with nx := u D } ρ' S
def dEnd (t : RS) : RS := fun D ρ S => ∃ ρ', Fz ρ ρ' ∧ t D ρ' S
def dNil : RS := fun D ρ S => D.nx ρ S
theorem dss_nil : DSs G [] dNil := ⟨fun {X en W σ H ρ S pins s D} z q => wpAny_execs_nil (z.sp q)⟩
theorem dss_cons (h1 : DS G st ts) (h2 : DSs G rest us) : DSs G (st :: rest) (dSeq ts us) := by
  refine ⟨fun {X en W σ H ρ S pins s D} z ⟨ρ', f, q⟩ => ?_⟩
  obtain ⟨W1, r1, l1⟩ := z.rs.fz f
  have z1 : At G X en W1 σ H ρ' S D.ex pins s := ⟨z.hf, tk_up l1 z.tk, r1, z.I⟩
  refine wpAny_execs_cons (thn (h1.run (D := { D with nx := us D }) z1 q) fun fl s1 q => ?_)
  cases fl with
  | next =>
    obtain ⟨σ', H', I', W', ρ2, S', r2, l2, q2⟩ := q
    exact thn (h2.run ⟨z.hf, tk_up (l1.trans l2) z.tk, r2, I'⟩ q2) fun _ _ => sp_back (l1.trans l2)
  | ret v => exact sp_back (D := D) (f := .ret v) l1 q
  | brk => exact sp_back (D := D) (f := .brk) l1 q
  | cont => exact sp_back (D := D) (f := .cont) l1 q
theorem dss_one (h1 : DS G st ts) : DSs G [st] (dEnd ts) := by
  refine ⟨fun {X en W σ H ρ S pins s D} z ⟨ρ', f, q⟩ => ?_⟩
  obtain ⟨W1, r1, l1⟩ := z.rs.fz f
  have z1 : At G X en W1 σ H ρ' S D.ex pins s := ⟨z.hf, tk_up l1 z.tk, r1, z.I⟩
  refine wpAny_execs_cons (thn (h1.run z1 q) fun fl s1 q => ?_)
  cases fl with
  | next => exact wpAny_execs_nil (sp_back (D := D) (f := .next) l1 q)
  | ret v => exact sp_back (D := D) (f := .ret v) l1 q
  | brk => exact sp_back (D := D) (f := .brk) l1 q
  | cont => exact sp_back (D := D) (f := .cont) l1 q
def dBrk : RS := fun D ρ S => D.bk ρ S
def dCnt : RS := fun D ρ S => D.ct ρ S
def dExpr (te : RE) : RS := fun D ρ S => te ρ S D.ex fun _ S1 => D.nx ρ S1
theorem ds_expr (he : DE G e te) (hs : ∀ env : Env, swapsWith e none pos.line env = pure false := by intro _; rfl) : DS G (.Expr e pos) (dExpr te) :=
  ⟨fun {X en W σ H ρ S pins s D} z q => wpAny_Expr_any (he.at z q fun v s1 x' H1 W1 o S1 z1 g1 r1 ro q1 => sp_back (D := D) (f := .next) g1.le (z1.sp q1)) z.I.quiet (hs _)⟩
def dRet (te : RE) : RS := fun D ρ S => te ρ S D.ex fun o S1 => ∃ d, o = .v d ∧ D.rt d ρ S1
theorem ds_ret (he : DE G e te) : DS G (.Return (some e) pos) (dRet te) :=
  ⟨fun {X en W σ H ρ S pins s D} z q => wpAny_Return_some (he.at z q fun v s1 x' H1 W1 o S1 z1 g1 r1 ro ⟨d, e1, q1⟩ => by
    subst e1
    exact ⟨x', σ, H1, z1.I, r1, W1, σ, ρ, d, S1, z1.rs, g1.le, ro, q1⟩)⟩
def dRetN : RS := fun D ρ S => D.rt .non ρ S
def dIfS (c : RT) (t u : RS) : RS := fun D ρ S => c ρ S D.ex fun b S1 => if b = true then t D ρ S1 else u D ρ S1
theorem ds_if {c : Expr} {sa sb : List Stmt} {tc : RT} (hc : DT G c tc) (ha : DSs G sa ts) (hb : DSs G sb us) : DS G (.If c sa sb pos) (dIfS tc ts us) := by
  refine ⟨fun {X en W σ H ρ S pins s D} z q => wpAny_If (hc.at z q fun d s1 H1 W1 S1 z1 g1 q1 => ?_)⟩
  cases d with
  | true => exact thn (ha.run z1 q1) fun _ _ => sp_back g1.le
  | false => exact thn (hb.run z1 q1) fun _ _ => sp_back g1.le
def dNever : RS := fun _ _ _ => False
theorem ds_never : DS G st dNever := ⟨fun _ h => h.elim⟩
/-! ### targets -/
abbrev RG := D → List Sl → Sto → XD → (List Sl → Sto → Prop) → Prop
abbrev RGs := List D → List Sl → Sto → XD → (List Sl → Sto → Prop) → Prop
/-- vs: the slots that may change -/
structure DG (G : Cf) (target : Expr) (vs : List Nat) (t : RG) : Prop where
  run : ∀ {X en W σ H ρ S E pins s Q d v u}, At G X en W σ H ρ S E pins s → Rep G.B.K W d v → RelV v u → t d ρ S E Q →
    wpAny (model X.prog X.w) X.A (assign target X.env u) (fun _ s' => ∃ σ' H' W' ρ' S', At G X en W' σ' H' ρ' S' E pins s' ∧ (W.Le W' ∧ Q ρ' S') ∧ ((∀ j, j ∉ vs → σ'[j]? = σ[j]?) ∧ σ'.length = σ.length) ∧ Go W H W' H') X.xe s
structure DGs (G : Cf) (ts : List Expr) (ws : List Nat) (t : RGs) : Prop where
  run : ∀ {X en W σ H ρ S E pins s Q ds vs us}, At G X en W σ H ρ S E pins s → Reps G.B.K W ds vs → Vals vs us → t ds ρ S E Q →
    wpAny (model X.prog X.w) X.A (assignInOrder ((assignEach ts X.env).map (·.2)) us) (fun _ s' => ∃ σ' H' W' ρ' S', At G X en W' σ' H' ρ' S' E pins s' ∧ (W.Le W' ∧ Q ρ' S') ∧ ((∀ j, j ∉ ws → σ'[j]? = σ[j]?) ∧ σ'.length = σ.length) ∧ Go W H W' H') X.xe s
def gName (i : Nat) : RG := fun d ρ S _ Q => Q (ρ.set i (.sh d)) S
abbrev Sto1 (G : Cf) (x : Str) : Prop := G.fn x = true ∨ G.sc.names.lookup x = some .local
theorem Fits.sto {i : Nat} (f : Fits G X en) (hi : G.N[i]? = some x) (hx : Loc G.sc x) (hf : Sto1 G x) : X.N[i]? = some x ∧ Loc X.env.scope x ∧ (X.fn x = true ∨ X.env.scope.names.lookup x = some .local) :=
  ⟨by rw [f.N]; exact hi, by rw [f.sc]; exact hx, hf.elim (fun h => .inl (f.fn x h)) fun h => .inr (by rw [f.sc]; exact h)⟩
theorem dg_name {i : Nat} (hi : G.N[i]? = some x) (hx : Loc G.sc x) (hf : Sto1 G x := by first | exact .inr rfl | exact .inl rfl) : DG G (.Name x pos) [i] (gName i) := by
  refine ⟨fun {X en W σ H ρ S E pins s Q d v u} z r rv q => ?_⟩
  obtain ⟨h1, h2, h3⟩ := z.hf.sto hi hx hf
  exact wpAny_assign_Name (store_ok z.I z.hf.nd h1 h2 rv (fun s' I' => ⟨_, H, W, _, S, ⟨z.hf, z.tk, z.rs.set i (s := .sh d) rfl ⟨v, rfl, r⟩, I'⟩, ⟨.refl, q⟩, ⟨fun j hj => List.getElem?_set_ne fun c => hj (by rw [c]; exact List.mem_cons_self), List.length_set⟩, .refl⟩) h3)
def gNil : RGs := fun ds ρ S _ Q => ds = [] ∧ Q ρ S
def gCons (t : RG) (u : RGs) : RGs := fun ds ρ S E Q => ∃ d r, ds = d :: r ∧ t d ρ S E fun ρ' S' => u r ρ' S' E Q
theorem dgs_nil : DGs G [] [] gNil := by
  refine ⟨fun {X en W σ H ρ S E pins s Q ds vs us} z r rv ⟨e, q⟩ => ?_⟩
  subst e
  cases r
  cases rv
  exact assignInOrder_nil ⟨σ, H, W, ρ, S, z, ⟨.refl, q⟩, ⟨fun _ _ => rfl, rfl⟩, .refl⟩
theorem dgs_cons {t : RG} {u : RGs} {vs ws : List Nat} (h1 : DG G e vs t) (h2 : DGs G es ws u) (hs : ∀ env : Env, (assignEach (e :: es) env).map (·.2) = assign e env :: (assignEach es env).map (·.2) := by intro _; rfl) : DGs G (e :: es) (vs ++ ws) (gCons t u) := by
  refine ⟨fun {X en W σ H ρ S E pins s Q ds vs us} z r rv ⟨d, dr, e1, q⟩ => ?_⟩
  subst e1
  cases r with
  | cons r rr =>
    cases rv with
    | cons v vv =>
      rw [hs]
      refine assignInOrder_cons (thn (h1.run z r v q) fun _ s1 ⟨σ1, H1, W1, ρ1, S1, z1, ⟨l1, q1⟩, ⟨k1, n1⟩, g1⟩ => ?_)
      exact thn (h2.run z1 (rr.le l1) vv q1) fun _ s2 ⟨σ2, H2, W2, ρ2, S2, z2, ⟨l2, q2⟩, ⟨k2, n2⟩, g2⟩ => ⟨σ2, H2, W2, ρ2, S2, z2, ⟨l1.trans l2, q2⟩, ⟨fun j hj => (k2 j fun c => hj (List.mem_append_right _ c)).trans (k1 j fun c => hj (List.mem_append_left _ c)), n2.trans n1⟩, g1.trans g2 z2.rs.ho⟩
def gTup (n : Nat) (t : RGs) : RG := fun d ρ S E Q => ∃ xs, d = .tup xs ∧ xs.length = n ∧ t xs ρ S E Q
theorem Rep.tupI {K : PySem.W.Frag} {xs : List D} {v : V} (h : Rep K W (.tup xs) v) : ∃ a vs, v = .ref a ∧ SqT K W.F a vs ∧ Reps K W xs vs := by
  cases h with
  | tup h r => exact ⟨_, _, rfl, h, r⟩
theorem Rep.lstI {K : PySem.W.Frag} {xs : List D} {v : V} (h : Rep K W (.lst xs) v) : ∃ a vs, v = .ref a ∧ Rd W.F a (.lst vs) ∧ Reps K W xs vs := by
  cases h with
  | lst h r => exact ⟨_, _, rfl, h, r⟩
theorem dg_tup {k : Nat} {t : RGs} {n : Nat} {vs : List Nat} (hc : G.B.cal = false) (h : DGs G es vs t) (hn : ∀ env : Env, (assignEach es env).length = n := by intro _; rfl) (hst : ∀ env : Env, (assignEach es env).findIdx? (·.1) = none := by intro _; rfl) : DG G (.Tuple es k pos) vs (gTup n t) := by
  refine ⟨fun {X en W σ H ρ S E pins s Q d v u} z r rv ⟨xs, e1, hl, q⟩ => ?_⟩
  subst e1
  obtain ⟨a, vs, rfl, hq, rr⟩ := r.tupI
  cases rv
  obtain ⟨its, rv, ht, hz⟩ := z.I.tuple (show SqT X.K H a vs by rw [z.hf.b.K]; exact sqT_le z.rs.ho.fh hq)
  refine assign_Tuple_tuple (z.hf.b.cm hc).2 ht (by simp [hn, ← hl, ← rr.len, rv.length]) (hst _) fun h' hx => ?_
  have I1 : Inv X pins σ H { s with heap := h' } := z.I.kept (t' := s.toks) fun b o e => hx b o (Nat.ne_of_lt (Heap.lt_size e)) e
  exact h.run ⟨z.hf, z.tk, z.rs, I1⟩ rr (by simpa using rv) q
/-- target = value -/
def dAsg (te : RE) (g : RG) : RS := fun D ρ S => te ρ S D.ex fun o S1 => ∃ d, o = .v d ∧ g d ρ S1 D.ex D.nx
theorem ds_asg {tg e : Expr} {g : RG} {vs : List Nat} (he : DE G e te) (hg : DG G tg vs g) (hs : ∀ env : Env, swapsWithSole [tg] e pos.line env = pure false := by intro _; rfl) (hw : ∀ env : Env, swappedStores [tg] e env = pure none := by intro _; rfl)
    (h1 : ∀ env : Env, (assignEach [tg] env).map (·.2) = [assign tg env] := by intro _; rfl) : DS G (.Assign [tg] e pos) (dAsg te g) := by
  refine ⟨fun {X en W σ H ρ S pins s D} z q => wpAny_Assign_stores (he.at z q fun v s1 x' H1 W1 o S1 z1 g1 r1 ro ⟨d, e1, q1⟩ => ?_) (hs _) (hw _)⟩
  subst e1
  rw [h1]
  exact thn (hg.run z1 ro r1 q1) fun _ s2 ⟨σ2, H2, W2, ρ2, S2, z2, ⟨l2, q2⟩, _⟩ => ⟨σ2, H2, z2.I, W2, ρ2, S2, z2.rs, g1.le.trans l2, q2⟩
/-- name = value -/
theorem ds_set {i : Nat} {pos' : Pos} (hi : G.N[i]? = some x) (hx : Loc G.sc x) (he : DE G e te) (hs : ∀ env : Env, swapsWith e (some (.Name x pos')) pos.line env = pure false := by intro _; rfl) (hf : Sto1 G x := by first | exact .inr rfl | exact .inl rfl) : DS G (.Assign [.Name x pos'] e pos) (dAsg te (gName i)) := by
  refine ⟨fun {X en W σ H ρ S pins s D} z q => wpAny_Assign_Name (he.at z q fun v s1 x' H1 W1 o S1 z1 g1 r1 ro ⟨d, e1, q1⟩ => ?_) (hs _)⟩
  subst e1
  obtain ⟨h1, h2, h3⟩ := z1.hf.sto hi hx hf
  exact store_ok z1.I z1.hf.nd h1 h2 r1 (fun s' I' => ⟨_, H1, I', W1, _, S1, z1.rs.set i (s := .sh d) rfl ⟨x', rfl, ro⟩, g1.le, q1⟩) h3
/-- what gives a new list -/
abbrev RF := List Sl → Sto → XD → (List D → Sto → Prop) → Prop
structure DF (G : Cf) (e : Expr) (t : RF) : Prop where
  run : ∀ {X en W σ H ρ S E pins s Q}, At G X en W σ H ρ S E pins s → t ρ S E Q → wpAny (model X.prog X.w) X.A (eval e X.env) (fun v s1 => ∃ a H1 W1 vs xs S1, Inv X pins σ H1 s1 ∧ v = .ref a ∧ H1 a = some (.lst vs) ∧ Reps G.B.K W1 xs vs ∧ Ho G.B.K W1 H1 S1 ∧ Go W H W1 H1 ∧ H a = none ∧ W1.F a = none ∧ (∀ i, i < W1.n → W1.m i ≠ a) ∧ Q xs S1) X.xe s
theorem Rs.fresh {K : PySem.W.Frag} {xs : List D} {vs : List V} {H' : Hp} {a : Addr} {i : Nat} {S' : Sto} (r : Rs K en W σ H ρ S) (h : Ho K W1 H' S') (g : Go W H W1 H') (ha : H' a = some (.lst vs)) (rr : Reps K W1 xs vs) (n : H a = none) (nf : W1.F a = none) (nm : ∀ i, i < W1.n → W1.m i ≠ a) :
    Rs K en W1 (σ.set i (some (.ref a))) H' (ρ.set i (.ol xs)) S' := by
  have r1 := r.after h g
  have ne : en.H a = none := by
    cases q : en.H a with
    | none => rfl
    | some u =>
      have := r1.go.kp a u q fun j hj c => by
        rw [← r1.go.le.m j hj] at c
        exact nm j (Nat.lt_of_lt_of_le hj r1.go.le.n) c
      have z : W1.n = W1.n := rfl
      have k := r.go.kp a u q fun j hj c => by
        rw [← r1.go.le.m j hj] at c
        exact nm j (Nat.lt_of_lt_of_le hj r1.go.le.n) c
      rw [n] at k
      cases k
  refine r1.setO i (s := .ol xs) ⟨a, vs, rfl, ha, rr, nf, ne, nm⟩ fun j t hj e1 o1 q1 => ?_
  have k := r.sl j t e1
  rw [q1] at k
  obtain ⟨b, u, e2, k2, _⟩ := k.own o1
  cases e2
  rw [n] at k2
  cases k2
def dAsgF (i : Nat) (tf : RF) : RS := fun D ρ S => tf ρ S D.ex fun xs S1 => D.nx (ρ.set i (.ol xs)) S1
theorem ds_setF {i : Nat} {pos' : Pos} {tf : RF} (hi : G.N[i]? = some x) (hx : Loc G.sc x) (he : DF G e tf) (hs : ∀ env : Env, swapsWith e (some (.Name x pos')) pos.line env = pure false := by intro _; rfl) (hf : Sto1 G x := by first | exact .inr rfl | exact .inl rfl) : DS G (.Assign [.Name x pos'] e pos) (dAsgF i tf) := by
  refine ⟨fun {X en W σ H ρ S pins s D} z q => wpAny_Assign_Name (thn (he.run z q) fun v s1 ⟨a, H1, W1, vs, xs, S1, I1, ev, ha, rr, h1, g1, n, nf, nm, q1⟩ => ?_) (hs _)⟩
  subst ev
  obtain ⟨k1, k2, k3⟩ := z.hf.sto hi hx hf
  exact store_ok I1 z.hf.nd k1 k2 (v := .ref a) rfl (fun s' I' => ⟨_, H1, I', W1, _, S1, z.rs.fresh h1 g1 ha rr n nf nm, g1.le, q1⟩) k3
/-- a new list as a value -/
abbrev dOfF (tf : RF) : RE := fun ρ S E Q => tf ρ S E fun xs S1 => Q (.v (.lst xs)) S1
theorem Ho.frz2 {K : PySem.W.Frag} {u : HO} {p : Addr} (h : Ho K W H S) (hu : H p = some u) (nf : W.F p = none) (nm : ∀ i, i < W.n → W.m i ≠ p) : Ho K (W.frz p u) H S :=
  ⟨h.n, fun b x z => by
    by_cases c : b = p
    · subst c
      rw [show (W.frz b u).F b = some u from upd_same] at z
      rw [hu]
      exact z
    · rw [show (W.frz p u).F b = W.F b from upd_ne c] at z
      exact h.fh b x z, h.inj, fun j hj => by
    show upd W.F p u (W.m j) = none
    rw [upd_ne (nm j hj)]
    exact h.mF j hj, h.there, fun j c z => (h.cel j c z).le (W.frz_le nf) fun x y => y⟩
theorem Go.frz2 {K : PySem.W.Frag} {u : HO} {p : Addr} {H' : Hp} (g : Go W H W1 H') (n : H p = none) (nf : W1.F p = none) : Go W H (W1.frz p u) H' :=
  ⟨g.le.trans (W1.frz_le nf), fun b x z => by
    by_cases c : b = p
    · subst c
      exact .inr n
    · rw [show (W1.frz p u).F b = W1.F b from upd_ne c] at z
      exact g.fn b x z, g.kp, g.mn⟩
theorem DF.de {tf : RF} (h : DF G e tf) : DE G e (dOfF tf) := by
  refine ⟨fun {X en W σ H ρ S E pins s Q} z q => thn (h.run z q) fun v s1 ⟨a, H1, W1, vs, xs, S1, I1, ev, ha, rr, h1, g1, n, nf, nm, q1⟩ => ?_⟩
  subst ev
  exact ⟨.ref a, H1, I1, rfl, W1.frz a (.lst vs), .v (.lst xs), S1, h1.frz2 ha nf nm, Go.frz2 (K := G.B.K) g1 n nf, .lst (.inl upd_same) (rr.le (W1.frz_le nf)), q1⟩
abbrev fLst (tA : RA) : RF := fun ρ S E Q => tA ρ S E fun os S1 => ∃ ds, Sol os ds ∧ sz ds.length ∧ Q ds S1
theorem df_lst (h : DA G es tA) : DF G (.List es pos) (fLst tA) := by
  refine ⟨fun {X en W σ H ρ S E pins s Q} z q => ?_⟩
  refine wpAny_List_spliced (h.at pos z q fun us s1 vs H1 W1 os S1 z1 g1 r1 ro ⟨ds, so, hz, q1⟩ => ?_)
  subst so
  have hr := Sol.rep ro
  have hl : vs.length ≤ sizeLine := by rw [hr.len]; exact hz
  refine ⟨by rw [← r1.length]; exact hl, ?_⟩
  have hf : H1 s1.heap.objs.size = none := z1.I.hok.fresh (Nat.le_refl _)
  have hH : H s1.heap.objs.size = none := by
    cases q : H s1.heap.objs.size with
    | none => rfl
    | some u =>
      by_cases y : ∃ i, i < W.n ∧ W.m i = s1.heap.objs.size
      · obtain ⟨i, hi, c⟩ := y
        rw [← g1.le.m i hi] at c
        obtain ⟨u2, e2⟩ := z1.rs.ho.there i (Nat.lt_of_lt_of_le hi g1.le.n)
        rw [c, hf] at e2
        cases e2
      · have := g1.kp _ u q fun i hi c => y ⟨i, hi, c⟩
        rw [hf] at this
        cases this
  have nm : ∀ i, i < W1.n → W1.m i ≠ s1.heap.objs.size := fun i hi c => by
    obtain ⟨u2, e2⟩ := z1.rs.ho.there i hi
    rw [c, hf] at e2
    cases e2
  refine ⟨s1.heap.objs.size, upd H1 s1.heap.objs.size (.lst vs), W1, vs, ds, S1, z1.I.laid (t' := s1.toks) (fun b u e => Heap.get?_push_of_some _ e) (Nat.le_refl _) ⟨hl, us, 0, r1, Heap.get?_push_size _ rfl⟩, rfl, upd_same, hr, ?_, ?_, hH, z1.rs.ho.nF hf, nm, q1⟩
  · exact ⟨z1.rs.ho.n, fun a o e => upd_keep hf (z1.rs.ho.fh a o e), z1.rs.ho.inj, z1.rs.ho.mF, fun i hi => let ⟨u, e⟩ := z1.rs.ho.there i hi; ⟨u, upd_keep hf e⟩, fun i c e => (z1.rs.ho.cel i c e).le .refl fun u q => upd_keep hf q⟩
  · exact ⟨g1.le, g1.fn, fun a o e n => upd_keep hf (g1.kp a o e n), g1.mn⟩
end
end Dt

set_option Elab.async false
set_option linter.all false
set_option maxRecDepth 100000
set_option maxHeartbeats 8000000
/-! DatE: stores to own lists, dicts, instances, to the store; pairs; loops; comprehensions -/
namespace Dt
open PySem PySem.Spec PyProof.Rows L2 My
/-! ### dicts -/
def valD (kvs : List (Key × D)) (k : Key) : Option D := (kvs.find? fun kv => decide (kv.1 = k)).map (·.2)
def putKD (kvs : List (Key × D)) (k : Key) (v : D) : List (Key × D) :=
  if (kvs.any fun kv => decide (kv.1 = k)) = true then kvs.map (fun kv => if kv.1 = k then (kv.1, v) else kv) else kvs ++ [(k, v)]
def dropKD (kvs : List (Key × D)) (k : Key) : List (Key × D) := kvs.filter fun kv => decide (kv.1 ≠ k)
/-- a key as a value -/
def kD : Key → D
  | .inl i => .int i
  | .inr x => .str x
section
variable {K : PySem.W.Frag} {W : Wd}
theorem RepK.val (k : Key) : ∀ {xs : List (Key × D)} {vs : List (Key × V)}, RepK K W xs vs → (valD xs k = none ∧ valV vs k = none) ∨ ∃ d v, valD xs k = some d ∧ valV vs k = some v ∧ Rep K W d v
  | _, _, .nil => .inl ⟨rfl, rfl⟩
  | _, _, .cons (k := j) (d := d) (v := v) (ds := ds) (vs := vs) h t => by
    by_cases e : j = k
    · refine .inr ⟨d, v, ?_, valV_pos e, h⟩
      simp [valD, List.find?_cons, e]
    · have e1 : valD ((j, d) :: ds) k = valD ds k := by simp [valD, List.find?_cons, e]
      rw [e1, valV_neg e]
      exact RepK.val k t
theorem RepK.any (k : Key) : ∀ {xs : List (Key × D)} {vs : List (Key × V)}, RepK K W xs vs → (xs.any fun kv => decide (kv.1 = k)) = (vs.any fun kv => decide (kv.1 = k))
  | _, _, .nil => rfl
  | _, _, .cons h t => by rw [List.any_cons, List.any_cons, RepK.any k t]
theorem RepK.map (k : Key) {d : D} {v : V} (r : Rep K W d v) : ∀ {xs : List (Key × D)} {vs : List (Key × V)}, RepK K W xs vs → RepK K W (xs.map fun kv => if kv.1 = k then (kv.1, d) else kv) (vs.map fun kv => if kv.1 = k then (kv.1, v) else kv)
  | _, _, .nil => .nil
  | _, _, .cons (k := j) h t => by
    rw [List.map_cons, List.map_cons]
    by_cases e : j = k
    · rw [if_pos e, if_pos e]
      exact .cons r (RepK.map k r t)
    · rw [if_neg e, if_neg e]
      exact .cons h (RepK.map k r t)
theorem RepK.app : ∀ {xs ys : List (Key × D)} {vs us : List (Key × V)}, RepK K W xs vs → RepK K W ys us → RepK K W (xs ++ ys) (vs ++ us)
  | _, _, _, _, .nil, h => h
  | _, _, _, _, .cons r t, h => .cons r (t.app h)
theorem RepK.put (k : Key) {d : D} {v : V} {xs : List (Key × D)} {vs : List (Key × V)} (h : RepK K W xs vs) (r : Rep K W d v) : RepK K W (putKD xs k d) (putK vs k v) := by
  unfold putKD putK
  rw [h.any k]
  by_cases e : (vs.any fun kv => decide (kv.1 = k)) = true
  · rw [if_pos e, if_pos e]
    exact h.map k r
  · rw [if_neg e, if_neg e]
    exact h.app (.cons r .nil)
theorem RepK.drop (k : Key) : ∀ {xs : List (Key × D)} {vs : List (Key × V)}, RepK K W xs vs → RepK K W (dropKD xs k) (dropK vs k)
  | _, _, .nil => .nil
  | _, _, .cons (k := j) (d := d) (v := v) (ds := ds) (vs := vs) h t => by
    have ih := RepK.drop k t
    unfold dropKD dropK at ih ⊢
    rw [List.filter_cons, List.filter_cons]
    by_cases e : j ≠ k
    · rw [if_pos (decide_eq_true e), if_pos (decide_eq_true e)]
      exact .cons h ih
    · rw [if_neg (by rw [decide_eq_false e]; exact Bool.false_ne_true), if_neg (by rw [decide_eq_false e]; exact Bool.false_ne_true)]
      exact ih
theorem rep_key {k : Key} {v : V} (h : Rep K W (kD k) v) : v = kV k := by
  cases k with
  | inl i => cases h; rfl
  | inr x => cases h; rfl
theorem RepF.put (f : Str) {d : D} {v : V} (r : Rep K W d v) : ∀ {xs : List (Str × D)} {vs : List (Str × V)}, RepF K W xs vs → RepF K W (putD f d xs) (putF f v vs)
  | _, _, .nil => .cons r .nil
  | _, _, .cons (k := j) (ds := ds) (vs := vs) h t => by
    unfold putD putF
    by_cases e : j = f
    · subst e
      rw [if_pos rfl, if_pos rfl]
      exact .cons r t
    · rw [if_neg e, if_neg e]
      exact .cons h (RepF.put f r t)
end

/-- the true reading of an expression at a context -/
def tE (X : Cx) (e : Expr) : TE := fun σ H Q => ∀ pins s, Inv X pins σ H s → wpAny (model X.prog X.w) X.A (eval e X.env) (EP X pins σ Q) X.xe s
theorem pcan (X : Cx) (e : Expr) : PE X e (tE X e) := ⟨fun pins s σ H Q I h => h pins s I⟩
section
variable {G : Cf} {X : Cx} {en : En} {W W0 W1 : Wd} {σ : L2.St} {H H1 : Hp} {ρ : List Sl} {S S1 : Sto} {pins : List (Addr × Obj)} {s s1 : Shared} {e a b c o : Expr} {es : List Expr} {t ta tb tc te to ti : RE} {tA tK : RA} {pos p apos : Pos} {x m : Str} {st : Stmt} {rest : List Stmt} {ts us : RS}
theorem At.re {E : XD} (z : At G X en W σ H ρ S E pins s) {pins' : List (Addr × Obj)} {s' : Shared} (I : Inv X pins' σ H s') : At G X en W σ H ρ S E pins' s' := ⟨z.hf, z.tk, z.rs, I⟩
/-! ### own lists -/
theorem At.own {E : XD} {i : Nat} {xs : List D} (z : At G X en W σ H ρ S E pins s) (e : ρ[i]? = some (.ol xs)) : ∃ a vs, σ[i]? = some (some (.ref a)) ∧ H a = some (.lst vs) ∧ Reps G.B.K W xs vs ∧ Own en W H a := z.rs.sl i _ e
theorem At.name {E : XD} {i : Nat} (z : At G X en W σ H ρ S E pins s) (hi : G.N[i]? = some x) (hv : Vis G.sc x) (hd : (x == ("__debug__" : Str)) = false) (hcd : (x == ("__classdict__" : Str)) = false) : PE X (.Name x p) (tVar i) := pe_var (by rw [z.hf.N]; exact hi) (by rw [z.hf.sc]; exact hv) hd hcd
/-- what stands in the own list at slot i changes -/
theorem At.sput {D : DEnds} {i : Nat} {xs ys : List Dt.D} {a : Addr} {us : List V} (z : At G X en W σ H ρ S D.ex pins s) (e : ρ[i]? = some (.ol xs)) (q : σ[i]? = some (some (.ref a))) (w : Own en W H a) (r : Reps G.B.K W ys us) (n : D.nx (ρ.set i (.ol ys)) S) (l : W0.Le W) : (ends G.B.K en W0 D).nx σ (upd H a (.lst us)) :=
  ⟨W, ρ.set i (.ol ys), S, z.rs.put e rfl rfl q w ⟨a, us, rfl, upd_same, r, w.f, w.e, w.m⟩, l, n⟩
def dApp (i : Nat) (te : RE) : RS := fun D ρ S => ∃ xs, ρ[i]? = some (.ol xs) ∧ xs.length < sizeLine ∧ te ρ S D.ex fun o S1 => ∃ d, o = .v d ∧ D.nx (ρ.set i (.ol (xs ++ [d]))) S1
theorem ds_app {i : Nat} {cpos : Pos} (hi : G.N[i]? = some x) (hv : Vis G.sc x) (he : DE G e te) (hd : (x == ("__debug__" : Str)) = false := by decide) (hcd : (x == ("__classdict__" : Str)) = false := by decide)
    (hfew : ∀ env : Env, ((backTo cpos (starEach [e] env)).all (fun x => !x.1) && (backToKw cpos (keywordEach [] env)).all (fun x => x.1.isSome)
      && decide ([e].length + ([] : List Keyword).length + (if ([] : List Keyword).isEmpty then 0 else 1) < 30)) = true := by intro _; rfl)
    (hline : (apos.endLine == cpos.line) = true := by rfl) (hs : ∀ env : Env, starEach [e] env = (false, eval e env) :: starEach [] env := by intro _; rfl) (hplain : ∀ env : Env, (backTo cpos (starEach [] env)).any (·.1) = false := by intro _; rfl)
    (hsw : ∀ env : Env, swapsWith (.Call (.Attribute (.Name x p) "append" apos) [e] [] cpos) none pos.line env = pure false := by intro _; rfl) :
    DS G (.Expr (.Call (.Attribute (.Name x p) "append" apos) [e] [] cpos) pos) (dApp i te) := by
  refine ⟨fun {X en W σ H ρ S pins s D} z ⟨xs, e1, hl, q⟩ => ?_⟩
  have P0 : PE X (.Name x p) (tVar i) := z.name hi hv hd hcd
  have PP := ps_expr (X := X) (pos := pos) (pe_bm (X := X) PySem.F.plainAttrs_list PySem.F.slot_list_append PySem.F.type_list_append mt_append P0 (pa_cons (pcan X e) pa_nil (hs _)) rfl (hfew _) hline (hs _) (hplain _)) (hsw _)
  obtain ⟨a, vs, q0, ha, rr, w⟩ := z.own e1
  refine PP.run pins s σ H _ z.I ⟨.ref a, q0, .inl ⟨rfl, vs, SqL.of ha⟩, fun pins' s' I => ?_⟩
  refine he.at (z.re I) q fun v s2 x' H1 W1 o S1 z1 g1 r1 ro ⟨d, eo, q1⟩ => ?_
  subst eo
  obtain ⟨a', vs', q0', ha', rr', w'⟩ := z1.own e1
  rw [q0] at q0'
  cases q0'
  refine ⟨x', H1, z1.I, r1, a, vs', x', rfl, rfl, ha', by rw [rr'.len]; exact hl, ?_⟩
  exact At.sput z1 e1 q0 w' (rr'.app (.cons ro .nil)) q1 g1.le
/-- x[i] = e, x an own list: the value, the index -/
def dSetI (i : Nat) (ti te : RE) : RS := fun D ρ S => ∃ xs, ρ[i]? = some (.ol xs) ∧ te ρ S D.ex fun o S1 => ∃ d, o = .v d ∧ ti ρ S1 D.ex fun j S2 => ∃ n k, j = .v (.int n) ∧ ixN xs.length n = some k ∧ D.nx (ρ.set i (.ol (xs.set k d))) S2
theorem ds_setI {i : Nat} (hi : G.N[i]? = some x) (hv : Vis G.sc x) (hb : DE G b ti) (he : DE G e te) (hd : (x == ("__debug__" : Str)) = false := by decide) (hcd : (x == ("__classdict__" : Str)) = false := by decide)
    (hs : ∀ env : Env, swapsWithSole [.Subscript (.Name x p) b apos] e pos.line env = pure false := by intro _; rfl) (hw : ∀ env : Env, swappedStores [.Subscript (.Name x p) b apos] e env = pure none := by intro _; rfl)
    (h1 : ∀ env : Env, (assignEach [.Subscript (.Name x p) b apos] env).map (·.2) = [assign (.Subscript (.Name x p) b apos) env] := by intro _; rfl)
    (ha : ∀ (env : Env) v, assign (.Subscript (.Name x p) b apos) env v = (do
      let ov ← holding [v] (eval (.Name x p) env)
      let iv ← holding [v, ov] (eval b env)
      standAt apos
      holding [v, ov, iv] (setItem ov iv v)
      release [v, ov, iv] []) := by intro _ _; rfl) : DS G (.Assign [.Subscript (.Name x p) b apos] e pos) (dSetI i ti te) := by
  refine ⟨fun {X en W σ H ρ S pins s D} z ⟨xs, e1, q⟩ => ?_⟩
  have P0 : PE X (.Name x p) (tVar i) := z.name hi hv hd hcd
  have PP := ps_asg (X := X) (pos := pos) (pcan X e) (pg_sub P0 (pcan X b) set_list (ha _)) (hs _) (hw _) (h1 _)
  refine PP.run pins s σ H _ z.I fun pins' s' I => ?_
  refine he.at (z.re I) q fun v s2 x' H1 W1 o S1 z1 g1 r1 ro ⟨d, eo, q1⟩ => ?_
  subst eo
  obtain ⟨a, vs, q0, ha, rr, w⟩ := z1.own e1
  refine ⟨x', H1, z1.I, r1, .ref a, q0, fun pins2 s2 I2 => ?_⟩
  refine hb.at (z1.re I2) q1 fun u s3 y' H2 W2 o2 S2 z2 g2 r2 ro2 ⟨n, k, eo, hk, q2⟩ => ?_
  subst eo
  cases ro2
  obtain ⟨a', vs', q0', ha', rr', w'⟩ := z2.own e1
  rw [q0] at q0'
  cases q0'
  refine ⟨.int n, H2, z2.I, r2, a, vs', n, k, rfl, rfl, ha', by rw [rr'.len]; exact hk, ?_⟩
  exact At.sput z2 e1 q0 w' (rr'.set (Rep.le g2.le ro) k) q2 (g1.le.trans g2.le)
/-! ### pairs of names -/
def dPar (i j : Nat) (tA : RA) : RS := fun D ρ S => tA ρ S D.ex fun os S1 => ∃ x y, os = [.v x, .v y] ∧ D.nx ((ρ.set i (.sh x)).set j (.sh y)) S1
/-- an argument list's true reading -/
def tAr (X : Cx) (es : List Expr) : TA := fun σ H Q => ∀ pos pins s, Inv X pins σ H s → wpAny (model X.prog X.w) X.A (spliced (backTo pos (starEach es X.env))) (AP X pins σ Q) X.xe s
theorem acan (X : Cx) (es : List Expr) : PA X es (tAr X es) := ⟨fun pos pins s σ H Q I h => h pos pins s I⟩
theorem ds_par {i j : Nat} {y : Str} {px py pt : Pos} {kt k2 pt2} (hc : G.B.cal = false) (hi : G.N[i]? = some x) (hj : G.N[j]? = some y) (hij : i ≠ j) (hx : G.sc.names.lookup x = some .local) (hy : G.sc.names.lookup y = some .local) (ha : DA G [a, b] tA)
    (hw : ∀ env : Env, env.scope = G.sc → swappedStores [.Tuple [.Name x px, .Name y py] kt pt] (.Tuple [a, b] k2 pt2) env = pure (some [x, y]))
    (hs : ∀ env : Env, swapsWithSole [.Tuple [.Name x px, .Name y py] kt pt] (.Tuple [a, b] k2 pt2) pos.line env = pure false := by intro _; rfl) :
    DS G (.Assign [.Tuple [.Name x px, .Name y py] kt pt] (.Tuple [a, b] k2 pt2) pos) (dPar i j tA) := by
  refine ⟨fun {X en W σ H ρ S pins s D} z q => ?_⟩
  have PP := ps_par (X := X) (pos := pos) (px := px) (py := py) (pt := pt) (kt := kt) (k2 := k2) (pt2 := pt2) (z.hf.b.cm hc).1 z.hf.nd (by rw [z.hf.N]; exact hi) (by rw [z.hf.N]; exact hj) hij (by rw [z.hf.sc]; exact hx) (by rw [z.hf.sc]; exact hy) (acan X [a, b]) (hw _ z.hf.sc) (hs _)
  refine PP.run pins s σ H _ z.I fun pos' pins' s' I => ?_
  refine ha.at pos' (z.re I) q fun us s2 vs H1 W1 os S1 z1 g1 r1 ro ⟨u, v, eo, q1⟩ => ?_
  subst eo
  cases ro with
  | cons ru ro =>
    cases ro with
    | cons rv ro =>
      cases ro
      refine ⟨_, H1, z1.I, r1, _, _, rfl, W1, _, S1, (z1.rs.set i (s := .sh u) rfl ⟨_, rfl, ru⟩).set j (s := .sh v) rfl ⟨_, rfl, rv⟩, g1.le, q1⟩
def dPar3 (i j l : Nat) (tA : RA) : RS := fun D ρ S => tA ρ S D.ex fun os S1 => ∃ x y z, os = [.v x, .v y, .v z] ∧ D.nx (((ρ.set i (.sh x)).set j (.sh y)).set l (.sh z)) S1
theorem ds_par3 {i j l : Nat} {y z : Str} {px py pz pt : Pos} {kt k2 pt2} (hc : G.B.cal = false) (hi : G.N[i]? = some x) (hj : G.N[j]? = some y) (hl : G.N[l]? = some z) (hij : i ≠ j) (hil : i ≠ l) (hjl : j ≠ l) (hx : G.sc.names.lookup x = some .local) (hy : G.sc.names.lookup y = some .local) (hz : G.sc.names.lookup z = some .local) (ha : DA G [a, b, c] tA)
    (hw : ∀ env : Env, env.scope = G.sc → swappedStores [.Tuple [.Name x px, .Name y py, .Name z pz] kt pt] (.Tuple [a, b, c] k2 pt2) env = pure (some [x, y, z]))
    (hs : ∀ env : Env, swapsWithSole [.Tuple [.Name x px, .Name y py, .Name z pz] kt pt] (.Tuple [a, b, c] k2 pt2) pos.line env = pure false := by intro _; rfl) :
    DS G (.Assign [.Tuple [.Name x px, .Name y py, .Name z pz] kt pt] (.Tuple [a, b, c] k2 pt2) pos) (dPar3 i j l tA) := by
  refine ⟨fun {X en W σ H ρ S pins s D} t q => ?_⟩
  have PP := ps_par3 (X := X) (pos := pos) (px := px) (py := py) (pz := pz) (pt := pt) (kt := kt) (k2 := k2) (pt2 := pt2) (t.hf.b.cm hc).1 t.hf.nd (by rw [t.hf.N]; exact hi) (by rw [t.hf.N]; exact hj) (by rw [t.hf.N]; exact hl) hij hil hjl (by rw [t.hf.sc]; exact hx) (by rw [t.hf.sc]; exact hy) (by rw [t.hf.sc]; exact hz) (acan X [a, b, c]) (hw _ t.hf.sc) (hs _)
  refine PP.run pins s σ H _ t.I fun pos' pins' s' I => ?_
  refine ha.at pos' (t.re I) q fun us s2 vs H1 W1 os S1 z1 g1 r1 ro ⟨u, v, w, eo, q1⟩ => ?_
  subst eo
  cases ro with
  | cons ru ro =>
    cases ro with
    | cons rv ro =>
      cases ro with
      | cons rw' ro =>
        cases ro
        refine ⟨_, H1, z1.I, r1, _, _, _, rfl, W1, _, S1, ((z1.rs.set i (s := .sh u) rfl ⟨_, rfl, ru⟩).set j (s := .sh v) rfl ⟨_, rfl, rv⟩).set l (s := .sh w) rfl ⟨_, rfl, rw'⟩, g1.le, q1⟩
/-! ### while -/
def dWhile (c : RT) (tb : RS) : RS := fun D ρ S => ∃ I : Nat → List Sl → Sto → Prop, (∃ m, I m ρ S) ∧ ∀ m ρ S, I m ρ S →
  c ρ S D.ex fun b S1 => if b = true then tb ⟨fun ρ' S' => ∃ m', m' < m ∧ I m' ρ' S', D.rt, D.nx, fun ρ' S' => ∃ m', m' < m ∧ I m' ρ' S', D.ex⟩ ρ S1 else D.nx ρ S1
/-- a test's, a block's true reading -/
def tTr (X : Cx) (e : Expr) : TT := fun σ H Q => ∀ pins s, Inv X pins σ H s → wpAny (model X.prog X.w) X.A (isTrue e X.env (eval e X.env)) (TP X pins σ Q) X.xe s
theorem tcan (X : Cx) (e : Expr) : PT X e (tTr X e) := ⟨fun pins s σ H Q I h => h pins s I⟩
def tBr (X : Cx) (st : List Stmt) : TS := fun D σ H => ∀ pins s, Inv X pins σ H s → wpAny (model X.prog X.w) X.A (execs st X.env) (SP X pins D) X.xe s
theorem bcan (X : Cx) (st : List Stmt) : PSs X st (tBr X st) := ⟨fun pins s σ H Q I h => h pins s I⟩
theorem ds_while {c : Expr} {body : List Stmt} {tc : RT} {tb : RS} (hp : G.lp = true) (hc : DT G c tc) (hb : DSs G body tb) : DS G (.While c body [] pos) (dWhile tc tb) := by
  refine ⟨fun {X en W σ H ρ S pins s D} z ⟨I, ⟨m0, i0⟩, step⟩ => ?_⟩
  refine (ps_while (X := X) (pos := pos) (z.hf.po hp) (tcan X c) (bcan X body)).run pins s σ H _ z.I ⟨fun m σ H => ∃ W' ρ S, Rs G.B.K en W' σ H ρ S ∧ W.Le W' ∧ I m ρ S, ⟨m0, W, ρ, S, z.rs, .refl, i0⟩, ?_⟩
  rintro m σ1 H1 ⟨W1, ρ1, S1, r1, l1, i1⟩ pins' s' I'
  refine hc.at ⟨z.hf, tk_up l1 z.tk, r1, I'⟩ (step m ρ1 S1 i1) fun b s2 H2 W2 S2 z2 g2 q2 => ?_
  cases b with
  | false => exact ⟨H2, z2.I, W2, ρ1, S2, z2.rs, l1.trans g2.le, q2⟩
  | true =>
    refine ⟨H2, z2.I, fun σ' H' => ∃ W' ρ' S', Rs G.B.K en W' σ' H' ρ' S' ∧ W.Le W' ∧ ∃ m', m' < m ∧ I m' ρ' S', fun σ' H' ⟨W', ρ', S', r', l', m', hm, i'⟩ => ⟨m', hm, W', ρ', S', r', l', i'⟩, fun pins2 s3 I3 => ?_⟩
    refine thn (hb.run (D := ⟨fun ρ' S' => ∃ m', m' < m ∧ I m' ρ' S', D.rt, D.nx, fun ρ' S' => ∃ m', m' < m ∧ I m' ρ' S', D.ex⟩) (z2.re I3) q2) fun fl s4 q4 => ?_
    have q5 := sp_back (l1.trans g2.le) q4
    cases fl with
    | next => exact q5
    | cont => exact q5
    | brk => exact q5
    | ret v => exact q5
/-! ### what a loop walks -/
/-- J walks the values xs -/
structure Wk (K : PySem.W.Frag) (W : Wd) (J : It) (xs : List D) : Prop where
  go : ∀ (i : Nat) W' H' S', W.Le W' → Ho K W' H' S' → i < xs.length → J.go i H'
  yl : ∀ (i : Nat) W' H' S' x H2, W.Le W' → Ho K W' H' S' → i < xs.length → J.yld i H' x H2 → ∃ d W2, xs[i]? = some d ∧ Ho K W2 H2 S' ∧ Go W' H' W2 H2 ∧ Rep K W2 d x
  st : ∀ (i : Nat) W' H' S', W.Le W' → Ho K W' H' S' → xs.length ≤ i → J.stop i H'
abbrev RI := List Sl → Sto → XD → (List D → Sto → Prop) → Prop
structure DI (G : Cf) (tg iter : Expr) (t : RI) : Prop where
  run : ∀ {X en W σ H ρ S E pins s Q}, At G X en W σ H ρ S E pins s → t ρ S E Q →
    wpAny (model X.prog X.w) X.A (eval iter X.env) (fun v s1 => wpAny (model X.prog X.w) X.A (pyIter v) (PIE X pins σ tg fun J H' => ∃ W' xs S', Ho G.B.K W' H' S' ∧ Go W H W' H' ∧ Wk G.B.K W' J xs ∧ Q xs S') X.xe s1) X.xe s
theorem Wk.list {K : PySem.W.Frag} {a : Addr} {xs : List D} {vs : List V} (h : SqL K W.F a vs) (r : Reps K W xs vs) : Wk K W (Itl K a) xs where
  go := fun i W' H' S' l ho hi => by
    have hv : i < vs.length := by rw [r.len]; exact hi
    exact ⟨vs, vs[i], sqL_le ho.fh (sqL_le l.f h), List.getElem?_eq_getElem hv⟩
  yl := fun i W' H' S' x H2 l ho hi y => by
    obtain ⟨e, y⟩ := y
    subst e
    obtain ⟨d, e, rd⟩ := r.get (y vs (sqL_le ho.fh (sqL_le l.f h)))
    exact ⟨d, W', e, ho, .refl, rd.le l⟩
  st := fun i W' H' S' l ho hi => ⟨vs, sqL_le ho.fh (sqL_le l.f h), by rw [r.len]; exact hi⟩
theorem Wk.tup {K : PySem.W.Frag} {a : Addr} {xs : List D} {vs : List V} (h : SqT K W.F a vs) (r : Reps K W xs vs) : Wk K W (Itt K a) xs where
  go := fun i W' H' S' l ho hi => by
    have hv : i < vs.length := by rw [r.len]; exact hi
    exact ⟨vs, vs[i], sqT_le ho.fh (sqT_le l.f h), List.getElem?_eq_getElem hv⟩
  yl := fun i W' H' S' x H2 l ho hi y => by
    obtain ⟨e, y⟩ := y
    subst e
    obtain ⟨d, e, rd⟩ := r.get (y vs (sqT_le ho.fh (sqT_le l.f h)))
    exact ⟨d, W', e, ho, .refl, rd.le l⟩
  st := fun i W' H' S' l ho hi => ⟨vs, sqT_le ho.fh (sqT_le l.f h), by rw [r.len]; exact hi⟩
/-- lo, lo + 1, .. -/
def rngD (lo : Int) (n : Nat) : List D := (List.range n).map fun i => .int (lo + (i : Nat))
theorem rngD_len (lo : Int) (n : Nat) : (rngD lo n).length = n := by rw [rngD, List.length_map, List.length_range]
theorem rngD_get {lo : Int} {n i : Nat} (h : i < n) : (rngD lo n)[i]? = some (.int (lo + i)) := by
  rw [rngD, List.getElem?_map, List.getElem?_range h] <;> rfl
theorem Wk.rng {K : PySem.W.Frag} {lo : Int} {n : Nat} : Wk K W (Itr lo n) (rngD lo n) where
  go := fun i W' H' S' l ho hi => by rw [rngD_len] at hi; exact hi
  yl := fun i W' H' S' x H2 l ho hi y => by
    rw [rngD_len] at hi
    obtain ⟨e, ex⟩ := y
    subst e ex
    exact ⟨_, W', rngD_get hi, ho, .refl, .int _⟩
  st := fun i W' H' S' l ho hi => by rw [rngD_len] at hi; exact hi
end
end Dt

set_option Elab.async false
set_option linter.all false
set_option maxRecDepth 100000
set_option maxHeartbeats 8000000
/-! DatF: what is walked; for loops; list comprehensions -/
namespace Dt
open PySem PySem.Spec PyProof.Rows L2 My
/-- the signs of a text -/
def sgnD (x : Str) : List D := x.cps.toList.map fun c => .str ⟨#[c]⟩
theorem Wk.str {K : PySem.W.Frag} {W : Wd} {x : Str} : Wk K W (Its x) (sgnD x) where
  go := fun i W' H' S' l ho hi => by
    rw [sgnD, List.length_map, Array.length_toList] at hi
    exact hi
  yl := fun i W' H' S' y H2 l ho hi q => by
    obtain ⟨e, c, e2, ev⟩ := q
    subst e ev
    refine ⟨.str ⟨#[c]⟩, W', ?_, ho, .refl, .str _⟩
    rw [sgnD, List.getElem?_map, Array.getElem?_toList, e2] <;> rfl
  st := fun i W' H' S' l ho hi => by
    rw [sgnD, List.length_map, Array.length_toList] at hi
    exact hi
/-- what may be walked: a list, a tuple, a text -/
def Walk : O → List D → Prop
  | .v (.lst xs), ys => ys = xs
  | .v (.tup xs), ys => ys = xs
  | .v (.str x), ys => ys = sgnD x
  | _, _ => False
section
variable {G : Cf} {X : Cx} {en : En} {W W1 : Wd} {σ : L2.St} {H H1 : Hp} {ρ : List Sl} {S S1 : Sto} {pins : List (Addr × Obj)} {s s1 : Shared} {e a b c o tg : Expr} {es : List Expr} {t ta tb tc te to ti : RE} {tA tK : RA} {pos p apos : Pos} {x m : Str} {st : Stmt} {rest : List Stmt} {ts us : RS}
abbrev iVal (te : RE) : RI := fun ρ S E Q => te ρ S E fun o S1 => ∃ xs, Walk o xs ∧ Q xs S1
theorem di_val (he : DE G e te) : DI G tg e (iVal te) := by
  refine ⟨fun {X en W σ H ρ S E pins s Q} z q => he.at z q fun v s1 x' H1 W1 o S1 z1 g1 r1 ro ⟨xs, wk, q1⟩ => ?_⟩
  have fr : ∀ b, s1.heap.objs.size ≤ b → FpOk X pins H1 b := fun b hb => z1.I.fpOk hb (z1.I.hok.fresh hb)
  cases o with
  | v d =>
    cases d with
    | lst ys =>
      obtain rfl : xs = ys := wk
      obtain ⟨a, vs, rfl, hq, rr⟩ := Rep.lstI ro
      cases r1
      obtain ⟨its, rv, p, hz⟩ := z1.I.list (show SqL X.K H1 a vs by rw [z1.hf.b.K]; exact .inl (rd_le z1.rs.ho.fh hq))
      refine wpAny_pyIter_list p.isList ?_
      refine ⟨s1.heap.objs.size, [s1.heap.objs.size], _, _, H1, rfl, z1.I.kept (t' := s1.toks) fun b o e => Heap.get?_push_of_some _ e, turn_list a _, ⟨_, Heap.get?_push_size _ rfl, rfl, rfl⟩, fun b hb => fr b (Nat.le_of_eq (List.mem_singleton.mp hb).symm), W1, xs, S1, z1.rs.ho, g1, ?_, q1⟩
      rw [z1.hf.b.K]
      exact .list (.inl hq) rr
    | tup ys =>
      obtain rfl : xs = ys := wk
      obtain ⟨a, vs, rfl, hq, rr⟩ := Rep.tupI ro
      cases r1
      obtain ⟨its, rv, p, hz⟩ := z1.I.tuple (show SqT X.K H1 a vs by rw [z1.hf.b.K]; exact sqT_le z1.rs.ho.fh hq)
      refine wpAny_pyIter_tuple (show s1.heap.IsTuple a its.toArray from p) ?_
      refine ⟨s1.heap.objs.size, [s1.heap.objs.size], _, _, H1, rfl, z1.I.kept (t' := s1.toks) fun b o e => Heap.get?_push_of_some _ e, turn_tuple a _, ⟨_, Heap.get?_push_size _ rfl, rfl, rfl⟩, fun b hb => fr b (Nat.le_of_eq (List.mem_singleton.mp hb).symm), W1, xs, S1, z1.rs.ho, g1, ?_, q1⟩
      rw [z1.hf.b.K]
      exact .tup hq rr
    | str x =>
      obtain rfl : xs = sgnD x := wk
      cases ro
      obtain ⟨t, rfl⟩ := r1
      cases ha : x.cps.all (· < 128)
      · exact wpAny_pyIter_wide ha (pi_one (tk := s1.toks) z1.I _ (turn_str _ x t "str_iterator" (.inr rfl)) ⟨_, Heap.get?_push_size _ rfl, rfl, rfl⟩ ⟨W1, _, S1, z1.rs.ho, g1, .str, q1⟩)
      · exact wpAny_pyIter_ascii ha (pi_one (tk := s1.toks) z1.I _ (turn_str _ x t "str_ascii_iterator" (.inl rfl)) ⟨_, Heap.get?_push_size _ rfl, rfl, rfl⟩ ⟨W1, _, S1, z1.rs.ho, g1, .str, q1⟩)
    | _ => exact wk.elim
  | _ => exact wk.elim
theorem pi_imp {R R' : It → Hp → Prop} {itv : Value} {s2 : Shared} (h : ∀ J H, R J H → R' J H) : PIE X pins σ tg R itv s2 → PIE X pins σ tg R' itv s2 := fun ⟨it, fp, tn, J, H', e, I, T, st, f, q⟩ => ⟨it, fp, tn, J, H', e, I, T, st, f, h _ _ q⟩
/-- range(n), range(a, b), range(a, b, c) -/
abbrev iRng1 (tA : RA) : RI := fun ρ S E Q => tA ρ S E fun os S1 => ∃ (n : Int) (xs : List D), os = [.v (.int n)] ∧ -(2 ^ 62) ≤ n ∧ n < 2 ^ 62 ∧ xs = rngD 0 n.toNat ∧ Q xs S1
abbrev iRng2 (tA : RA) : RI := fun ρ S E Q => tA ρ S E fun os S1 => ∃ (i j : Int) (xs : List D), os = [.v (.int i), .v (.int j)] ∧ (-(2 ^ 62) ≤ i ∧ i < 2 ^ 62 ∧ -(2 ^ 62) ≤ j ∧ j < 2 ^ 62) ∧ xs = rngD i (j - i).toNat ∧ Q xs S1
theorem di_range1 (hg : Glb G "range") (hm : G.B.mg "range" = none) (ha : DA G [a] tA) (hs : ∀ env : Env, starEach [a] env = [(false, eval a env)] := by intro _; rfl) : DI G tg (.Call (.Name "range" p) [a] [] pos) (iRng1 tA) := by
  refine ⟨fun {X en W σ H ρ S E pins s Q} z q => ?_⟩
  refine (pi_range1 (X := X) (gl_of z.hf.sc hg) (by rw [z.hf.b.mg]; exact hm) (acan X [a]) (hs _)).run pins s σ H _ z.I fun pos' pins' s' I => ?_
  refine ha.at pos' (z.re I) q fun us s2 vs H1 W1 os S1 z1 g1 r1 ro ⟨n, xs, eo, h1, h2, ex, q1⟩ => ?_
  subst eo ex
  cases ro with
  | cons r ro =>
    cases ro
    cases r
    exact ⟨_, H1, z1.I, r1, n, rfl, h1, h2, W1, _, S1, z1.rs.ho, g1, .rng, q1⟩
theorem di_range2 (hg : Glb G "range") (hm : G.B.mg "range" = none) (ha : DA G [a, b] tA) (hs : ∀ env : Env, starEach [a, b] env = [(false, eval a env), (false, eval b env)] := by intro _; rfl) (hs2 : ∀ env : Env, starEach [b] env = [(false, eval b env)] := by intro _; rfl) : DI G tg (.Call (.Name "range" p) [a, b] [] pos) (iRng2 tA) := by
  refine ⟨fun {X en W σ H ρ S E pins s Q} z q => ?_⟩
  refine (pi_range2 (X := X) (gl_of z.hf.sc hg) (by rw [z.hf.b.mg]; exact hm) (acan X [a, b]) (hs _) (hs2 _)).run pins s σ H _ z.I fun pos' pins' s' I => ?_
  refine ha.at pos' (z.re I) q fun us s2 vs H1 W1 os S1 z1 g1 r1 ro ⟨i, j, xs, eo, h, ex, q1⟩ => ?_
  subst eo ex
  cases ro with
  | cons r ro =>
    cases ro with
    | cons r' ro =>
      cases ro
      cases r
      cases r'
      exact ⟨_, H1, z1.I, r1, i, j, rfl, h, W1, _, S1, z1.rs.ho, g1, .rng, q1⟩
/-! ### for -/
/-- the turns that are left -/
def Loop (g : RG) (tb : RS) (D : DEnds) : List Dt.D → List Sl → Sto → Prop
  | [], ρ, S => D.nx ρ S
  | x :: xs, ρ, S => g x ρ S D.ex fun ρ' S' => tb ⟨Loop g tb D xs, D.rt, D.nx, Loop g tb D xs, D.ex⟩ ρ' S'
def dFor (ti : RI) (g : RG) (tb : RS) : RS := fun D ρ S => ti ρ S D.ex fun xs S1 => Loop g tb D xs ρ S1
/-- a target's, a walk's true reading -/
def tGr (X : Cx) (tg : Expr) : TG := fun v σ H Q => ∀ pins s u, Inv X pins σ H s → RelV v u → wpAny (model X.prog X.w) X.A (assign tg X.env u) (fun _ s' => ∃ σ' H', Inv X pins σ' H' s' ∧ Q σ' H') X.xe s
theorem gcan (X : Cx) (tg : Expr) : PG X tg (tGr X tg) := ⟨fun pins s σ H v u Q I r h => h pins s u I r⟩
def tIr (X : Cx) (tg iter : Expr) : TI := fun σ H R => ∀ pins s, Inv X pins σ H s → wpAny (model X.prog X.w) X.A (eval iter X.env) (fun v s1 => wpAny (model X.prog X.w) X.A (pyIter v) (PIE X pins σ tg R) X.xe s1) X.xe s
theorem ican (X : Cx) (tg iter : Expr) : PI X tg iter (tIr X tg iter) := ⟨fun pins s σ H R I h => h pins s I⟩
theorem ds_for {iter : Expr} {body : List Stmt} {ti : RI} {g : RG} {tb : RS} {vs : List Nat} (hp : G.lp = true) (hc : G.B.cal = false) (hi : DI G tg iter ti) (hg : DG G tg vs g) (hb : DSs G body tb)
    (hs : ∀ (env : Env) x, foldedSetIterable iter env x = pure x := by intro _ _; rfl) : DS G (.For tg iter body [] pos) (dFor ti g tb) := by
  refine ⟨fun {X en W σ H ρ S pins s D} z q => ?_⟩
  refine (ps_for (X := X) (pos := pos) (z.hf.po hp) (z.hf.b.cm hc).1 (ican X tg iter) (gcan X tg) (bcan X body) (hs _)).run pins s σ H _ z.I fun pins' s' I => ?_
  refine thn (hi.run (z.re I) q) fun v s1 h1 => thn h1 fun itv s2 h2 => ?_
  refine pi_imp (fun J H1 ⟨W1, xs, S1, h1, g1, wk, q1⟩ => ?_) h2
  have r1 := z.rs.after h1 g1
  refine ⟨fun i m σ' H' => m = xs.length - i ∧ i ≤ xs.length ∧ ∃ W' ρ' S', Rs G.B.K en W' σ' H' ρ' S' ∧ W1.Le W' ∧ Loop g tb D (xs.drop i) ρ' S', ⟨xs.length, by simp, Nat.zero_le _, W1, ρ, S1, r1, .refl, by simpa using q1⟩, ?_⟩
  rintro i m σ2 H2 ⟨rfl, hi, W2, ρ2, S2, r2, l2, q2⟩
  by_cases hlt : i < xs.length
  · refine .inr ⟨wk.go i W2 H2 S2 l2 r2.ho hlt, fun σ3 H3 => ∃ W3 ρ3 S3, Rs G.B.K en W3 σ3 H3 ρ3 S3 ∧ W1.Le W3 ∧ Loop g tb D (xs.drop (i + 1)) ρ3 S3, fun σ3 H3 ⟨W3, ρ3, S3, r3, l3, q3⟩ => ⟨_, by omega, rfl, hlt, W3, ρ3, S3, r3, l3, q3⟩, fun x H3 y => ?_⟩
    obtain ⟨d, W3, ed, h3, g3, rd⟩ := wk.yl i W2 H2 S2 x H3 l2 r2.ho hlt y
    rw [List.drop_eq_getElem_cons hlt] at q2
    have e2 : xs[i] = d := by
      rw [List.getElem?_eq_getElem hlt] at ed
      exact Option.some.inj ed
    rw [e2] at q2
    intro pins3 s3 u I3 ru
    have z3 : At G X en W3 σ2 H3 ρ2 S2 D.ex pins3 s3 := ⟨z.hf, tk_up (g1.le.trans (l2.trans g3.le)) z.tk, r2.after h3 g3, I3⟩
    refine thn (hg.run z3 rd ru q2) fun _ s4 ⟨σ4, H4, W4, ρ4, S4, z4, ⟨l4, q4⟩, _⟩ => ⟨σ4, H4, z4.I, fun pins5 s5 I5 => ?_⟩
    have l5 : W1.Le W4 := (l2.trans g3.le).trans l4
    refine thn (hb.run (D := ⟨Loop g tb D (xs.drop (i + 1)), D.rt, D.nx, Loop g tb D (xs.drop (i + 1)), D.ex⟩) (z4.re I5) q4) fun fl s6 q6 => ?_
    cases fl with
    | next => exact let ⟨σ6, H6, I6, W6, ρ6, S6, r6, l6, k6⟩ := q6; ⟨σ6, H6, I6, W6, ρ6, S6, r6, l5.trans l6, k6⟩
    | cont => exact let ⟨σ6, H6, I6, W6, ρ6, S6, r6, l6, k6⟩ := q6; ⟨σ6, H6, I6, W6, ρ6, S6, r6, l5.trans l6, k6⟩
    | brk => exact let ⟨σ6, H6, I6, W6, ρ6, S6, r6, l6, k6⟩ := q6; ⟨σ6, H6, I6, W6, ρ6, S6, r6, g1.le.trans (l5.trans l6), k6⟩
    | ret v => exact let ⟨v, σ6, H6, I6, r0, W6, σ', ρ6, d, S6, r6, l6, rp, k6⟩ := q6; ⟨v, σ6, H6, I6, r0, W6, σ', ρ6, d, S6, r6, g1.le.trans (l5.trans l6), rp, k6⟩
  · have e : i = xs.length := by omega
    subst e
    rw [List.drop_length] at q2
    exact .inl ⟨wk.st _ W2 H2 S2 l2 r2.ho (Nat.le_refl _), W2, ρ2, S2, r2, g1.le.trans l2, q2⟩
/-! ### list comprehensions -/
def wipeS (ρ : List Sl) : List Nat → List Sl
  | [] => ρ
  | v :: vs => (wipeS ρ vs).set v .un
theorem Rs.wipe {K : PySem.W.Frag} (r : Rs K en W σ H ρ S) : ∀ vs : List Nat, Rs K en W (wipe σ vs) H (wipeS ρ vs) S
  | [] => r
  | v :: vs => (r.wipe vs).set v (s := .un) rfl trivial
theorem wipe_eq {σ' : L2.St} (ws : List Nat) (hl : σ'.length = σ.length) (h : ∀ j, j ∉ ws → σ'[j]? = σ[j]?) : L2.wipe σ' ws = L2.wipe σ ws := by
  refine List.ext_getElem? fun j => ?_
  by_cases hj : j ∈ ws
  · have key : ∀ (τ : L2.St) (vs : List Nat), j ∈ vs → (L2.wipe τ vs)[j]? = if j < τ.length then some none else none := fun τ vs => by
      induction vs with
      | nil => intro c; cases c
      | cons v vs ih =>
        intro c
        show ((L2.wipe τ vs).set v none)[j]? = _
        by_cases z : v = j
        · subst z
          rw [List.getElem?_set]
          simp [wipe_length]
        · rw [List.getElem?_set_ne z]
          exact ih ((List.mem_cons.mp c).resolve_left fun y => z y.symm)
    rw [key σ' ws hj, key σ ws hj, hl]
  · rw [wipe_out hj, wipe_out hj, h j hj]
theorem Ho.own_put {K : PySem.W.Frag} {a : Addr} {u : HO} (h : Ho K W H S) (w : Own en W H a) : Ho K W (upd H a u) S :=
  ⟨h.n, fun b x z => by
    rw [upd_ne fun y => by
      rw [y, w.f] at z
      cases z]
    exact h.fh b x z, h.inj, h.mF, fun j hj => by
    rw [upd_ne (w.m j hj)]
    exact h.there j hj, fun j c z => by
    have hj : j < W.n := by
      rw [h.n]
      exact (List.getElem?_eq_some_iff.mp z).1
    exact (h.cel j c z).le .refl fun x y => by rw [upd_ne (w.m j hj)]; exact y⟩
theorem Go.own_put {a : Addr} {u : HO} (g : Go W H W1 H1) (n : H a = none) : Go W H W1 (upd H1 a u) :=
  ⟨g.le, g.fn, fun b x z k => by
    rw [upd_ne fun y => by
      rw [y, n] at z
      cases z]
    exact g.kp b x z k, g.mn⟩
def noE : XD := fun _ _ _ _ => False
theorem takes_no {K : PySem.W.Frag} : Takes X (XT K en W noE) := fun u s' ⟨a, B, sI, pins, σ, H, cls, d, e, I, nb, up, sky, na, os, ag, C, fs, W, ρ, S, x, r, l, q⟩ => q.elim
/-- the turns of a comprehension that are left; acc: what is gathered -/
def Lc (g : RG) (tt : RT) (te : RE) (ρ : List Sl) : List D → List D → Sto → (List D → Sto → Prop) → Prop
  | [], acc, S, Q => Q acc S
  | x :: xs, acc, S, Q => g x ρ S noE fun ρ' S' => tt ρ' S' noE fun c S2 => if c = true then te ρ' S2 noE fun o S3 => ∃ d, o = .v d ∧ acc.length < sizeLine ∧ Lc g tt te ρ xs (acc ++ [d]) S3 Q else Lc g tt te ρ xs acc S2 Q
abbrev fLc (ti : RI) (g : RG) (tt : RT) (te : RE) (ws : List Nat) : RF := fun ρ S E Q => ti ρ S E fun xs S1 => Lc g tt te (wipeS ρ ws) xs [] S1 Q
structure DTs (G : Cf) (ifs : List Expr) (t : RT) : Prop where
  run : ∀ {X en W σ H ρ S E pins s Q}, At G X en W σ H ρ S E pins s → t ρ S E Q → wpAny (model X.prog X.w) X.A (forIn ifs true fun c r => if r = true then do let ok ← isTrue c X.env (eval c X.env); pure (ForInStep.yield ok) else pure (ForInStep.yield r)) (TP X pins σ (NxB G.B.K W H Q)) X.xe s
abbrev dYes : RT := fun _ S _ Q => Q true S
theorem dts_nil : DTs G [] dYes := ⟨fun {X en W σ H ρ S E pins s Q} z q => wpAny_tests_nil ⟨H, z.I, W, S, z.rs.ho, .refl, q⟩⟩
theorem dts_one {c : Expr} {t : RT} (h : DT G c t) : DTs G [c] t := ⟨fun z q => wpAny_tests_one (h.run z q)⟩
/-- the block's settings -/
abbrev Cf.blk (G : Cf) (scope : Scope) : Cf := { G with sc := relS scope G.sc, lp := true, fn := fun x => scope.names.lookup x == some .cell, tr := false, ax := fun _ _ => True, axt := fun _ _ _ _ _ => trivial }
theorem Fits.blk (f : Fits G X en) (hc : G.B.cal = false) {scope : Scope} {cl : List (Str × Addr)} {C : Addr} {s0 : Shared} {H0 : Hp} {fp : List Addr} : Fits (G.blk scope) (X.blk s0 H0 scope (compEnvC scope cl C X.env) fp) en :=
  ⟨⟨f.b.P, f.b.w, f.b.K, f.b.mg, f.b.base, f.b.rm, f.b.gd, f.b.cm, (fun p e => by
    rw [f.b.nq hc] at e
    cases e), f.b.nq⟩, f.N, (by
    show relS scope X.env.scope = relS scope G.sc
    rw [f.sc]), f.nd, fun x h => h, fun _ => PassesOwn.never, fun h => Bool.noConfusion h, trivial⟩
/-- a block's true readings -/
def tGb (X : Cx) (scope : Scope) (tg : Expr) : TG := fun v σ H Q => ∀ (s : Shared) (H0 : Hp) (C : Addr) (cl : List (Str × Addr)) (fp : List Addr), tGr (X.blk s H0 scope (compEnvC scope cl C X.env) fp) tg v σ H Q
def tEb (X : Cx) (scope : Scope) (e : Expr) : TE := fun σ H Q => ∀ (s : Shared) (H0 : Hp) (C : Addr) (cl : List (Str × Addr)) (fp : List Addr), tE (X.blk s H0 scope (compEnvC scope cl C X.env) fp) e σ H Q
def tTb (X : Cx) (scope : Scope) (ifs : List Expr) : TT := fun σ H Q => ∀ (s : Shared) (H0 : Hp) (C : Addr) (cl : List (Str × Addr)) (fp : List Addr) pins s', Inv (X.blk s H0 scope (compEnvC scope cl C X.env) fp) pins σ H s' →
  wpAny (model X.prog X.w) X.A (forIn ifs true fun c r => if r = true then do let ok ← isTrue c (compEnvC scope cl C X.env) (eval c (compEnvC scope cl C X.env)); pure (ForInStep.yield ok) else pure (ForInStep.yield r)) (TP (X.blk s H0 scope (compEnvC scope cl C X.env) fp) pins σ Q) (fun _ _ => False) s'
theorem lc_read {iter elt : Expr} {ifs : List Expr} {scope : Scope} {own : List (Str × Nat)} {ws : List Nat} {ti : RI} {g : RG} {tt : RT} {te : RE} {E : XD} {Q : List D → Sto → Prop} (hc : G.B.cal = false) (hw : ∀ j, j ∈ ws → j ∈ own.map (·.2)) (hi : DI G tg iter ti) (hg : DG (G.blk scope) tg ws g) (ht : DTs (G.blk scope) ifs tt) (he : DE (G.blk scope) elt te) (z : At G X en W σ H ρ S E pins s)
    (q : fLc ti g tt te (own.map (·.2)) ρ S E Q) : tLc (tIr X tg iter) (tGb X scope tg) (tTb X scope ifs) (tEb X scope elt) (own.map (·.2)) σ H
      (fun v H1 => ∃ a W1 vs xs S1, v = .ref a ∧ H1 a = some (.lst vs) ∧ Reps G.B.K W1 xs vs ∧ Ho G.B.K W1 H1 S1 ∧ Go W H W1 H1 ∧ H a = none ∧ W1.F a = none ∧ (∀ i, i < W1.n → W1.m i ≠ a) ∧ Q xs S1) := by
  intro pins' s' I
  refine thn (hi.run (z.re I) q) fun v s1 h1 => thn h1 fun itv s2 h2 => ?_
  refine pi_imp (fun J H1 ⟨W1, xs, S1, h1, g1, wk, q1⟩ L hL => ?_) h2
  have r1 := (z.rs.after h1 g1).wipe (own.map (·.2))
  have hL0 : H L = none := by
    cases y : H L with
    | none => rfl
    | some u =>
      by_cases c : ∃ i, i < W.n ∧ W.m i = L
      · obtain ⟨i, hi, c⟩ := c
        rw [← g1.le.m i hi] at c
        obtain ⟨u2, e2⟩ := h1.there i (Nat.lt_of_lt_of_le hi g1.le.n)
        rw [c, hL] at e2
        cases e2
      · have := g1.kp L u y fun i hi k => c ⟨i, hi, k⟩
        rw [hL] at this
        cases this
  have nm : ∀ i, i < W1.n → W1.m i ≠ L := fun i hi c => by
    obtain ⟨u2, e2⟩ := h1.there i hi
    rw [c, hL] at e2
    cases e2
  have nE : en.H L = none := by
    have g0 := z.rs.go.trans g1 h1
    cases y : en.H L with
    | none => rfl
    | some u =>
      by_cases c : ∃ i, i < en.W.n ∧ en.W.m i = L
      · obtain ⟨i, hi, c⟩ := c
        rw [← g0.le.m i hi] at c
        exact (nm i (Nat.lt_of_lt_of_le hi g0.le.n) c).elim
      · have := g0.kp L u y fun i hi k => c ⟨i, hi, k⟩
        rw [hL] at this
        cases this
  have w0 : Own en W1 (upd H1 L (.lst [])) L := ⟨h1.nF hL, nE, nm⟩
  have w1 : Own en W1 H1 L := ⟨h1.nF hL, nE, nm⟩
  refine ⟨fun i m H' => m = xs.length - i ∧ i ≤ xs.length ∧ ∃ W' S' acc vs, H' L = some (.lst vs) ∧ Reps G.B.K W' acc vs ∧ Ho G.B.K W' H' S' ∧ Go W1 H1 W' H' ∧ Own en W' H' L ∧ Lc g tt te (wipeS ρ (own.map (·.2))) (xs.drop i) acc S' Q,
    ⟨xs.length, by simp, Nat.zero_le _, W1, S1, [], [], upd_same, .nil, h1.own_put w1, Go.own_put .refl hL, w0, by simpa using q1⟩, ?_⟩
  rintro i m H2 ⟨rfl, hi, W2, S2, acc, vs, eL, ra, h2, g2, w2, q2⟩
  by_cases hlt : i < xs.length
  · refine .inr ⟨wk.go i W2 H2 S2 g2.le h2 hlt, fun H' => ∃ W' S' acc vs, H' L = some (.lst vs) ∧ Reps G.B.K W' acc vs ∧ Ho G.B.K W' H' S' ∧ Go W1 H1 W' H' ∧ Own en W' H' L ∧ Lc g tt te (wipeS ρ (own.map (·.2))) (xs.drop (i + 1)) acc S' Q, fun H' k => ⟨_, by omega, rfl, hlt, k⟩, fun x H3 y => ?_⟩
    obtain ⟨d, W3, ed, h3, g3, rd⟩ := wk.yl i W2 H2 S2 x H3 g2.le h2 hlt y
    rw [List.drop_eq_getElem_cons hlt] at q2
    have e2 : xs[i] = d := by
      rw [List.getElem?_eq_getElem hlt] at ed
      exact Option.some.inj ed
    rw [e2] at q2
    intro s0 H0 C cl fp pins3 s3 u I3 ru
    have ef : Fits (G.blk scope) (X.blk s0 H0 scope (compEnvC scope cl C X.env) fp) en := z.hf.blk hc
    have z3 : At (G.blk scope) (X.blk s0 H0 scope (compEnvC scope cl C X.env) fp) en W3 (L2.wipe σ (own.map (·.2))) H3 (wipeS ρ (own.map (·.2))) S2 noE pins3 s3 := ⟨ef, takes_no, (r1.after h2 g2).after h3 g3, I3⟩
    refine thn (hg.run z3 rd ru q2) fun _ s4 ⟨σ4, H4, W4, ρ4, S4, z4, ⟨l4, q4⟩, ⟨k4, n4⟩, g4⟩ => ⟨σ4, H4, z4.I, ?_, ?_⟩
    · have e1 := wipe_eq (own.map (·.2)) n4 fun j hj => k4 j fun c => hj (hw j c)
      rw [e1]
      exact wipe_eq _ (wipe_length _ _) fun j hj => wipe_out hj
    · intro s01 H01 C1 cl1 fp1 pins5 s5 I5
      have ef1 : Fits (G.blk scope) (X.blk s01 H01 scope (compEnvC scope cl1 C1 X.env) fp1) en := z.hf.blk hc
      have z5 : At (G.blk scope) (X.blk s01 H01 scope (compEnvC scope cl1 C1 X.env) fp1) en W4 σ4 H4 ρ4 S4 noE pins5 s5 := ⟨ef1, takes_no, z4.rs, I5⟩
      refine thn (ht.run z5 q4) fun b s6 ⟨H6, I6, W6, S6, h6, g6, q6⟩ => ⟨H6, I6, ?_⟩
      have g26 : Go W2 H2 W6 H6 := ((g3.trans g4 z4.rs.ho).trans g6 h6)
      cases b with
      | false =>
        simp only [Bool.false_eq_true, if_false] at q6 ⊢
        exact ⟨W6, S6, acc, vs, g26.kp L _ eL w2.m, ra.le g26.le, h6, g2.trans g26 h6, w2.go g26 eL, q6⟩
      | true =>
        simp only [if_true] at q6 ⊢
        intro s02 H02 C2 cl2 fp2 pins7 s7 I7
        have ef2 : Fits (G.blk scope) (X.blk s02 H02 scope (compEnvC scope cl2 C2 X.env) fp2) en := z.hf.blk hc
        have z7 : At (G.blk scope) (X.blk s02 H02 scope (compEnvC scope cl2 C2 X.env) fp2) en W6 σ4 H6 ρ4 S6 noE pins7 s7 := ⟨ef2, takes_no, z5.rs.after h6 g6, I7⟩
        refine thn (he.run z7 q6) fun v8 s8 ⟨x8, H8, I8, r8, W8, o8, S8, h8, g8, ro8, d8, eo, hz, q8⟩ => ?_
        subst eo
        have g28 := g26.trans g8 h8
        have eL8 := g28.kp L _ eL w2.m
        have w8 := w2.go g28 eL
        refine ⟨x8, H8, I8, r8, vs, eL8, by rw [ra.len]; exact hz, W8, S8, acc ++ [d8], vs ++ [x8], upd_same, (ra.le g28.le).app (.cons ro8 .nil), h8.own_put w8, Go.own_put (g2.trans g28 h8) hL, ⟨w8.f, w8.e, w8.m⟩, q8⟩
  · have e : i = xs.length := by omega
    subst e
    rw [List.drop_length] at q2
    exact .inl ⟨wk.st _ W2 H2 S2 g2.le h2 (Nat.le_refl _), L, W2, vs, acc, S2, rfl, eL, ra, h2, g1.trans g2 h2, hL0, w2.f, w2.m, q2⟩
theorem df_lc {iter elt : Expr} {ifs : List Expr} {scope : Scope} {own : List (Str × Nat)} {ws : List Nat} {ti : RI} {g : RG} {tt : RT} {te : RE} (hc : G.B.cal = false) (hw : ∀ j, j ∈ ws → j ∈ own.map (·.2)) (hi : DI G tg iter ti) (ok : BlkOk G.N G.sc scope own) (hg : DG (G.blk scope) tg ws g) (ht : DTs (G.blk scope) ifs tt) (he : DE (G.blk scope) elt te)
    (hs : ∀ (env : Env) x, foldedSetIterable iter env x = pure x := by intro _ _; rfl) : DF G (.ListComp elt [⟨tg, iter, ifs, 0⟩] scope pos) (fLc ti g tt te (own.map (·.2))) := by
  refine ⟨fun {X en W σ H ρ S E pins s Q} z q => ?_⟩
  have PP := pe_lc (X := X) (elt := elt) (tg := tg) (iter := iter) (ifs := ifs) (scope := scope) (own := own) (pos := pos) (wi := tIr X tg iter) (g := tGb X scope tg) (tt := tTb X scope ifs) (te := tEb X scope elt) (z.hf.b.cm hc).1 z.hf.nd (ican X tg iter) (by rw [z.hf.N, z.hf.sc]; exact ok)
    (fun s H C cl fp => ⟨fun pins s' σ H v u Q I r h => h _ _ _ _ _ pins s' u I r⟩) (fun s H C cl fp => ⟨fun pins s' σ H Q I h => h _ _ _ _ _ pins s' I⟩) (fun s H C cl fp => ⟨fun pins s' σ H Q I h => h _ _ _ _ _ pins s' I⟩) (hs _)
  refine thn (PP.run pins s σ H _ z.I (lc_read hc hw hi hg ht he z q)) fun v s1 ⟨x, H1, I1, r1, a, W1, vs, xs, S1, e, ha, rr, h1, g1, n, nf, nm, q1⟩ => ?_
  subst e
  obtain rfl : v = Value.ref a := r1
  exact ⟨a, H1, W1, vs, xs, S1, I1, rfl, ha, rr, h1, g1, n, nf, nm, q1⟩
/-- name = [..] on one line, the name a local: the frame's own list, or a value -/
def dAsgC (i : Nat) (tf : RF) : RS := fun D ρ S => tf ρ S D.ex fun xs S1 => D.nx (ρ.set i (.ol xs)) S1
theorem ds_setLc {i : Nat} {y : Str} {py spos : Pos} {iter elt : Expr} {ifs : List Expr} {scope : Scope} {own : List (Str × Nat)} {ws : List Nat} {ti : RI} {g : RG} {tt : RT} {te : RE} (hc : G.B.cal = false) (hw : ∀ j, j ∈ ws → j ∈ own.map (·.2)) (hy : G.N[i]? = some y) (hyl : G.sc.names.lookup y = some .local)
    (hsw : ∀ env : Env, env.scope = G.sc → swapsWith (.ListComp elt [⟨tg, iter, ifs, 0⟩] scope pos) (some (.Name y py)) spos.line env = pure true) (hi : DI G tg iter ti) (ok : BlkOk G.N G.sc scope own) (hg : DG (G.blk scope) tg ws g) (ht : DTs (G.blk scope) ifs tt) (he : DE (G.blk scope) elt te)
    (hs : ∀ (env : Env) x, foldedSetIterable iter env x = pure x := by intro _ _; rfl) : DS G (.Assign [.Name y py] (.ListComp elt [⟨tg, iter, ifs, 0⟩] scope pos) spos) (dAsgC i (fLc ti g tt te (own.map (·.2)))) := by
  refine ⟨fun {X en W σ H ρ S pins s D} z q => ?_⟩
  have PP := ps_setLc (X := X) (i := i) (y := y) (py := py) (spos := spos) (elt := elt) (tg := tg) (iter := iter) (ifs := ifs) (scope := scope) (own := own) (pos := pos) (wi := tIr X tg iter) (g := tGb X scope tg) (tt := tTb X scope ifs) (te := tEb X scope elt) (z.hf.b.cm hc).1 z.hf.nd (by rw [z.hf.N]; exact hy) (by rw [z.hf.sc]; exact hyl) (hsw _ z.hf.sc) (ican X tg iter) (by rw [z.hf.N, z.hf.sc]; exact ok)
    (fun s H C cl fp => ⟨fun pins s' σ H v u Q I r h => h _ _ _ _ _ pins s' u I r⟩) (fun s H C cl fp => ⟨fun pins s' σ H Q I h => h _ _ _ _ _ pins s' I⟩) (fun s H C cl fp => ⟨fun pins s' σ H Q I h => h _ _ _ _ _ pins s' I⟩) (hs _)
  have rd := lc_read hc hw hi hg ht he z q
  have mono : ∀ {F F' : VK}, (∀ v H, F v H → F' v H) → tLc (tIr X tg iter) (tGb X scope tg) (tTb X scope ifs) (tEb X scope elt) (own.map (·.2)) σ H F → tLc (tIr X tg iter) (tGb X scope tg) (tTb X scope ifs) (tEb X scope elt) (own.map (·.2)) σ H F' := fun {F F'} hF h pins' s' I => thn (h pins' s' I) fun v s1 h1 => thn h1 fun itv s2 h2 => pi_imp (fun J H1 k L hL => by
    obtain ⟨Wv, m0, st⟩ := k L hL
    exact ⟨Wv, m0, fun i m H w => (st i m H w).imp (fun ⟨p1, p2⟩ => ⟨p1, hF _ _ p2⟩) id⟩) h2
  refine PP.run pins s σ H _ z.I (mono (fun v H1 ⟨a, W1, vs, xs, S1, e, ha, rr, h1, g1, n, nf, nm, q1⟩ => ?_) rd)
  subst e
  exact ⟨W1, _, S1, z.rs.fresh h1 g1 ha rr n nf nm, g1.le, q1⟩
end
end Dt

set_option Elab.async false
set_option linter.all false
set_option maxRecDepth 100000
set_option maxHeartbeats 8000000
/-! DatG: defs by their bodies: entry, binding of arguments, calls, makers -/
namespace Dt
open PySem PySem.Spec PyProof.Rows L2 My
/-- how a call's arguments come to the parameters. pre: what stands ahead (the instance under way); ks: the names of the keywords; ok: which lists may come; ar: the parameters' values -/
def BindM (B : Bs) (fd : FuncData) (ps : List Str) (m : Nat) (ks : List Str) (ok : List D → List D → Prop) (ar : List D → List D → List D) : Prop :=
  ∀ (A : Around) (outer : List Env) (s : Shared) (W : Wd) (H : Hp) (S : Sto) (E : XK) (pre : List V) (preU : List Value) (ds zs : List D) (vs ws : List V) (us us' : List Value), pre.length = m → ok ds zs → Env0 B.P B.w B.K B.mg B.base A outer s H → B.K.In s.heap → Ho B.K W H S →
    Vals pre preU → Reps B.K W ds vs → Reps B.K W zs ws → Vals vs us → Vals ws us' →
    StX.Bnd (L2.CX B.P B.w) B.P B.w B.K B.mg B.base fd ⟨preU ++ us, ks.zip us'⟩ ps A outer s H E (fun vs2 H2 => ∃ W2 vs3, vs2 = pre ++ vs3 ∧ Ho B.K W2 H2 S ∧ Go W H W2 H2 ∧ Reps B.K W2 (ar ds zs) vs3 ∧ ∀ a o, H a = some o → H2 a = some o)
/-- no new object at the binding -/
theorem bnd_to {P : Program} {w : World} {K : PySem.W.Frag} {mg : Str → Option Value} {base : Heap} {fd : FuncData} {args : Args} {ps : List Str} {A : Around} {outer : List Env} {s : Shared} {H : Hp} {E : XK} {us : List Value} {vs : List V} {G : List V → Hp → Prop}
    (e0 : Env0 P w K mg base A outer s H) (b : BindsTo s fd args (ps.zip us)) (r : Vals vs us) (hl : vs.length = ps.length) (g : G vs H) : StX.Bnd (L2.CX P w) P w K mg base fd args ps A outer s H E G :=
  fun A' Ex Q h => b _ _ _ _ (h s H vs us e0 Un.refl rfl (fun _ _ z => z) r hl g)
/-- the values of defaults -/
def Dfl (K : PySem.W.Frag) (ds : List D) (vs : List V) : Prop := ∀ W, Reps K W ds vs
section
variable {B : Bs} {x qual : Str} {params : Arguments} {body : List Stmt} {scope : Scope} {dvs : List V} {kws : List (Str × V)} {f : Addr} {fd : FuncData} {N ps ks : List Str} {m n : Nat}
/-- by position, none lacking -/
theorem bm_all (F : FunD B.K x qual params body scope [] kws f fd)
    (h : ∀ (kV doc pm : Value) (an : Option Addr) (cdv ct : Value) (us : List Value), us.length = ps.length → bindArgs (PySem.W.fnOf x qual params body scope .none kV doc pm an cdv ct) ⟨us, []⟩ = pure (ps.zip us)) :
    BindM B fd ps m [] (fun ds zs => ds.length + m = ps.length ∧ zs = []) (fun ds _ => ds) := by
  intro A outer s W H S E pre preU ds zs vs ws us us' hm ok e0 KX ho rp rd rz rv rw'
  obtain ⟨ok, e⟩ := ok
  subst e
  cases rz
  cases rw'
  have hl : (pre ++ vs).length = ps.length := by rw [List.length_append, rd.len]; omega
  have hu : (preU ++ us).length = ps.length := by rw [← hl]; exact ((rp.append rv).length).symm
  exact bnd_to e0 (F.bindsA h s (preU ++ us) hu) (rp.append rv) hl ⟨W, vs, rfl, ho, .refl, rd, fun _ _ z => z⟩
/-- by position, the last defaults filling up -/
theorem bm_dfl {dd : List D} (F : FunD B.K x qual params body scope dvs kws f fd) (n j : Nat) (hd : dvs ≠ []) (hn : n + (dvs.length - j) = ps.length)
    (h : ∀ (T : Addr) (kV doc pm : Value) (an : Option Addr) (cdv ct : Value) (us its : List Value), us.length = n → its.length = dvs.length →
      ∃ k, bindArgs (PySem.W.fnOf x qual params body scope (.ref T) kV doc pm an cdv ct) ⟨us, []⟩ = seqItems? (.ref T) >>= k ∧ k (some its.toArray) = pure (ps.zip (us ++ its.drop j))) (hdd : Dfl B.K dd (dvs.drop j)) :
    BindM B fd ps m [] (fun ds zs => ds.length + m = n ∧ zs = []) (fun ds _ => ds ++ dd) := by
  obtain ⟨dsV, r1, hb⟩ := F.binds1 n j hd hn h
  intro A outer s W H S E pre preU ds zs vs ws us us' hm ok e0 KX ho rp rd rz rv rw'
  obtain ⟨ok, e⟩ := ok
  subst e
  cases rz
  cases rw'
  have hdl : (dvs.drop j).length = ps.length - n := by rw [List.length_drop]; omega
  have hl : (pre ++ (vs ++ dvs.drop j)).length = ps.length := by rw [List.length_append, List.length_append, rd.len, hdl]; omega
  have r2 : Vals (pre ++ (vs ++ dvs.drop j)) (preU ++ us ++ dsV) := by
    rw [← List.append_assoc]
    exact (rp.append rv).append r1
  exact bnd_to e0 (hb s (preU ++ us) KX (by rw [← hl]; exact r2.length.symm)) r2 hl ⟨W, _, rfl, ho, .refl, rd.app (hdd W), fun _ _ z => z⟩
/-- with keywords, by a rule of binding -/
theorem bm_kbn {g : List Value → List Value → List Value} {gV : List V → List V → List V} {ar : List D → List D → List D} (kb : KBn B.K fd ps n ks g gV) (nm : m ≤ n)
    (hg : ∀ W pre ds zs vs ws, pre.length = m → ds.length + m = n → zs.length = ks.length → Reps B.K W ds vs → Reps B.K W zs ws → ∃ vs3, gV (pre ++ vs) ws = pre ++ vs3 ∧ Reps B.K W (ar ds zs) vs3 ∧ (pre ++ vs3).length = ps.length) :
    BindM B fd ps m ks (fun ds zs => ds.length + m = n ∧ zs.length = ks.length) ar := by
  intro A outer s W H S E pre preU ds zs vs ws us us' hm ok e0 KX ho rp rd rz rv rw'
  obtain ⟨ok, okz⟩ := ok
  obtain ⟨vs3, e, r3, hl⟩ := hg W pre ds zs vs ws hm ok okz rd rz
  have h1 : (preU ++ us).length = n := by rw [← (rp.append rv).length, List.length_append, rd.len]; omega
  have h2 : us'.length = ks.length := by rw [← rw'.length, rz.len]; exact okz
  have r := kb.rel (rp.append rv) rw'
  rw [e] at r
  exact bnd_to e0 (kb.to s (preU ++ us) us' KX h1 h2) r hl ⟨W, vs3, rfl, ho, .refl, r3, fun _ _ z => z⟩
/-- def f(a, .., *v) -/
theorem bm_star {pv : Str} (F : FunD B.K x qual params body scope [] kws f fd) (nm : m ≤ ps.length)
    (hb : ∀ (kV doc pm : Value) (an : Option Addr) (cdv ct : Value) (us rest : List Value), us.length = ps.length → bindArgs (PySem.W.fnOf x qual params body scope .none kV doc pm an cdv ct) ⟨us ++ rest, []⟩ = (newTuple rest >>= fun t => pure (ps.zip us ++ [(pv, t)]))) :
    BindM B fd (ps ++ [pv]) m [] (fun ds zs => ps.length - m ≤ ds.length ∧ ds.length - (ps.length - m) ≤ sizeLine ∧ zs = []) (fun ds _ => ds.take (ps.length - m) ++ [.tup (ds.drop (ps.length - m))]) := by
  intro A outer s W H S E pre preU ds zs vs ws us us' hm ok e0 KX ho rp rd rz rv rw'
  obtain ⟨ok1, ok2, e⟩ := ok
  subst e
  cases rz
  cases rw'
  obtain ⟨oc, od, dV, kV, doc, pm, an, cdv, ct, osl, rfl, lk, hcd, hD, _⟩ := F.ex
  obtain rfl : dV = .none := by
    rcases hD with ⟨_, e⟩ | ⟨e, _⟩
    · exact e
    · exact absurd rfl e
  have hvl := rd.len
  have ru1 := Vals.take (ps.length - m) rv
  have ru2 := Vals.drop (ps.length - m) rv
  have hn : H s.heap.objs.size = Option.none := e0.hok.fresh (Nat.le_refl _)
  have hl0 : (pre ++ vs.take (ps.length - m)).length = ps.length := by rw [List.length_append, List.length_take, hvl]; omega
  have hl1 : (preU ++ us.take (ps.length - m)).length = ps.length := (rp.append ru1).length.symm.trans hl0
  have hz : (vs.drop (ps.length - m)).length ≤ sizeLine := by rw [List.length_drop, hvl]; exact ok2
  have hl2 : (us.drop (ps.length - m)).length ≤ sizeLine := by rw [← ru2.length]; exact hz
  intro A' Ex Q h
  have ea : preU ++ us = (preU ++ us.take (ps.length - m)) ++ us.drop (ps.length - m) := by rw [List.append_assoc, List.take_append_drop]
  show wpAny _ _ (bindArgs _ ⟨preU ++ us, []⟩) _ _ _
  rw [ea, hb kV doc pm an cdv ct _ _ hl1]
  refine wpAny_bind (wpAny_newTuple (wpAny_pure ?_) hl2)
  have new : ObjOk B.P B.w (upd H s.heap.objs.size (.tup (vs.drop (ps.length - m)))) (s.heap.push ({ cls := .type "tuple", data := .seq (us.drop (ps.length - m)).toArray } : Obj)) s.heap.objs.size (.tup (vs.drop (ps.length - m))) := ⟨hz, _, ru2, ⟨_, Heap.get?_push_size _ rfl, rfl, _, rfl⟩⟩
  have un := StX.un_laid (fs := frs outer) (s := s) (o := ({ cls := .type "tuple", data := .seq (us.drop (ps.length - m)).toArray } : Obj)) (u := .tup (vs.drop (ps.length - m))) hn
  have z := h _ _ (pre ++ (vs.take (ps.length - m) ++ [V.ref s.heap.objs.size])) ((preU ++ us.take (ps.length - m)) ++ [Value.ref s.heap.objs.size]) (StX.env0_laid e0 new) un rfl
    (fun e s' => StX.cxUp outer s H _ _ E e s' un (fun b o q => Heap.get?_push_of_some _ q) rfl) (by rw [← List.append_assoc]; exact (rp.append ru1).append (.cons rfl .nil))
    (by rw [← List.append_assoc, List.length_append, hl0, List.length_append] <;> rfl) ⟨W.frz s.heap.objs.size (.tup (vs.drop (ps.length - m))), _, rfl, ho.frz hn, Go.frz ho hn, (rd.take _).le (W.frz_le (ho.nF hn)) |>.app (.cons (.tup (SqT.of upd_same) ((rd.drop _).le (W.frz_le (ho.nF hn)))) .nil), fun a o e => upd_keep hn e⟩
  rw [List.zip_append hl1.symm] at z
  exact z
end

/-! ### a def's body -/
/-- what is known of a frame's context, whatever is tried in it -/
structure Axm where
  ax : Cx → En → Prop
  axt : ∀ (X : Cx) (en : En) (pn : List (Addr × Obj)) (xe : Value → Shared → Prop), ax X en → ax (X.tr pn xe) en
def axT : Axm := ⟨fun _ _ => True, fun _ _ _ _ _ => trivial⟩
abbrev fnCfA (B : Bs) (k : Nat) (N : List Str) (scope : Scope) (a : Axm) : Cf := ⟨B, k, N, scope, true, fun _ => true, true, a.ax, a.axt⟩
abbrev fnCf (B : Bs) (k : Nat) (N : List Str) (scope : Scope) : Cf := fnCfA B k N scope axT
def startS (n : Nat) (ds : List D) : List Sl := ds.map Sl.sh ++ List.replicate (n - ds.length) .un
theorem start_rs {K : PySem.W.Frag} {en : En} {W : Wd} {H : Hp} {S : Sto} {N : List Str} {ds : List D} {vs : List V} (ho : Ho K W H S) (g : Go en.W en.H W H) (r : Reps K W ds vs) : Rs K en W (L2.start N vs) H (startS N.length ds) S where
  ho := ho
  go := g
  len := by
    unfold startS L2.start
    rw [List.length_append, List.length_append, List.length_map, List.length_map, List.length_replicate, List.length_replicate, r.len]
  sl := fun i s e => by
    unfold startS at e
    by_cases hi : i < ds.length
    · rw [List.getElem?_append_left (by rw [List.length_map]; exact hi), List.getElem?_map, List.getElem?_eq_getElem hi] at e
      cases e
      obtain ⟨v, ev, rv⟩ := r.at (List.getElem?_eq_getElem hi)
      refine ⟨v, ?_, rv⟩
      unfold L2.start
      rw [List.getElem?_append_left (by rw [List.length_map, r.len]; exact hi), List.getElem?_map, ev] <;> rfl
    · rw [List.getElem?_append_right (by rw [List.length_map]; omega), List.getElem?_replicate] at e
      split at e
      · cases e
        trivial
      · cases e
  dis := fun i j s t a ne e1 o1 e2 o2 q1 q2 => by
    unfold startS at e1
    by_cases hi : i < ds.length
    · rw [List.getElem?_append_left (by rw [List.length_map]; exact hi), List.getElem?_map, List.getElem?_eq_getElem hi] at e1
      cases e1
      cases o1
    · rw [List.getElem?_append_right (by rw [List.length_map]; omega), List.getElem?_replicate] at e1
      split at e1
      · cases e1
        cases o1
      · cases e1
section
variable {B : Bs} {x qual : Str} {params : Arguments} {body : List Stmt} {scope : Scope} {dvs : List V} {kws : List (Str × V)} {f : Addr} {fd : FuncData} {N ps ks : List Str} {m k : Nat} {ok : List D → List D → Prop} {ar : List D → List D → List D} {t : RS}
/-- a def runs: from any start -/
theorem run_defA {ax : Axm} (F : FunD B.K x qual params body scope dvs kws f fd) (Sc : FnScope N ps scope) (hot : B.hot = false) (bm : BindM B fd ps m ks ok ar) (hd : DSs (fnCfA B k N scope ax) body t) {A : Around} {outer : List Env} {s : Shared} {W : Wd} {H : Hp} {S : Sto} {Q : VK} {E : XK} {pre : List V} {preU : List Value} {ds zs : List D} {vs ws : List V} {us us' : List Value}
    (hm : pre.length = m) (hok : ok ds zs) (hr : My.RG (k + 1) A) (e0 : Env0 B.P B.w B.K B.mg B.base A outer s H) (KX : B.K.In s.heap) (ho : Ho B.K W H S) (rp : Vals pre preU) (rd : Reps B.K W ds vs) (rz : Reps B.K W zs ws) (rv : Vals vs us) (rw' : Vals ws us')
    (hax : ∀ (en : En) (cdv : Value) (A : Around) (outer : List Env) (s : Shared) (H : Hp) (E : XK), (f = He.ga B.K x → cdv = .ref (He.codeOf B.K (x, none))) → ax.ax (cxOf (L2.CX B.P B.w) B.P B.w B.K B.mg B.base N qual scope f cdv A outer s H E) en)
    (hq : ∀ W2 H2 vs3, Ho B.K W2 H2 S → Go W H W2 H2 → Reps B.K W2 (ar ds zs) vs3 → (∀ a o, H a = some o → H2 a = some o) → ∃ (en : En) (ρ0 : List Sl) (D : DEnds), en.pin = none ∧ Rs B.K en W2 (L2.start N (pre ++ vs3)) H2 ρ0 S ∧ t D ρ0 S ∧
      (∀ σ' H' W' ρ' S', Rs B.K en W' σ' H' ρ' S' → W2.Le W' → D.nx ρ' S' → Q .non H') ∧ (∀ v H' W' σ' ρ' d S', Rs B.K en W' σ' H' ρ' S' → W2.Le W' → Rep B.K W' d v → D.rt d ρ' S' → Q v H') ∧
      (∀ ρ S, ¬ D.bk ρ S) ∧ (∀ ρ S, ¬ D.ct ρ S) ∧ ∀ cls d σ' H', XT B.K en W2 D.ex cls d σ' H' → E cls d H') :
    codeAny (model B.P B.w) A (.call (.ref f) ⟨preU ++ us, ks.zip us'⟩) (CR (L2.CX B.P B.w) outer B.P B.w H s Q E) s := by
  obtain ⟨oc, od, dV, kV, doc, pm, an, cdv, ct, osl, rfl, lk, hcd, hD, _⟩ := F.ex
  refine StX.run_bnd lk hcd Sc hr.r e0 (bm A outer s W H S E pre preU ds zs vs ws us us' hm hok e0 KX ho rp rd rz rv rw') fun s2 H2 vs2 ⟨W2, vs3, e2, h2, g2, r3, kp⟩ hr' => ?_
  subst e2
  obtain ⟨en, ρ0, D, pn, rs, hq, n1, n2, n3, n4, n5⟩ := hq W2 H2 vs3 h2 g2 r3 kp
  refine ⟨tBr _ body, bcan _ body, fun pins' s' I => ?_⟩
  have hr2 : My.RG k (A.deeper (envOfC qual scope s2.heap.objs.size f cdv)) := hr.deeper _
  have hcd2 : f = He.ga B.K x → cdv = .ref (He.codeOf B.K (x, none)) := fun ef => by
    subst ef
    obtain ⟨c, rfl⟩ := He.codeIn_ref hcd
    rw [He.codeOf_eq (p := (x, none)) lk rfl]
  have ft : Fits (fnCfA B k N scope ax) (cxOf (L2.CX B.P B.w) B.P B.w B.K B.mg B.base N qual scope f cdv A outer s2 H2 E) en :=
    ⟨⟨rfl, rfl, rfl, rfl, rfl, ⟨hr2.r.dp, hr2.r.un⟩, (fun _ => hr2.g), fun _ => ⟨rfl, hr2.r.hd⟩, (fun p e => by rw [pn] at e; cases e), fun _ => pn⟩, rfl, rfl, Sc.nd, fun _ _ => rfl, fun _ => passes_of rfl, fun _ => ⟨rfl, rfl⟩, hax _ _ _ _ _ _ _ hcd2⟩
  have tk : Takes (cxOf (L2.CX B.P B.w) B.P B.w B.K B.mg B.base N qual scope f cdv A outer s2 H2 E) (XT B.K en W2 D.ex) :=
    (takes_of (X := cxOf (L2.CX B.P B.w) B.P B.w B.K B.mg B.base N qual scope f cdv A outer s2 H2 E) (E := E) rfl rfl rfl rfl).imp n5
  refine thn (hd.run (D := D) ⟨ft, tk, rs, I⟩ hq) fun fl s3 q3 => ?_
  cases fl with
  | next => exact let ⟨σ', H', I', W', ρ', S', r, l, q⟩ := q3; ⟨σ', H', I', n1 _ _ _ _ _ r l q⟩
  | ret v => exact let ⟨v, σ0, H', I', r0, W', σ', ρ', d, S', r, l, rp, q⟩ := q3; ⟨v, σ0, H', I', r0, n2 _ _ _ _ _ _ _ r l rp q⟩
  | brk => exact let ⟨σ', H', I', W', ρ', S', r, l, q⟩ := q3; (n3 _ _ q).elim
  | cont => exact let ⟨σ', H', I', W', ρ', S', r, l, q⟩ := q3; (n4 _ _ q).elim
theorem run_def (F : FunD B.K x qual params body scope dvs kws f fd) (Sc : FnScope N ps scope) (hot : B.hot = false) (bm : BindM B fd ps m ks ok ar) (hd : DSs (fnCf B k N scope) body t) {A : Around} {outer : List Env} {s : Shared} {W : Wd} {H : Hp} {S : Sto} {Q : VK} {E : XK} {pre : List V} {preU : List Value} {ds zs : List D} {vs ws : List V} {us us' : List Value}
    (hm : pre.length = m) (hok : ok ds zs) (hr : My.RG (k + 1) A) (e0 : Env0 B.P B.w B.K B.mg B.base A outer s H) (KX : B.K.In s.heap) (ho : Ho B.K W H S) (rp : Vals pre preU) (rd : Reps B.K W ds vs) (rz : Reps B.K W zs ws) (rv : Vals vs us) (rw' : Vals ws us')
    (hq : ∀ W2 H2 vs3, Ho B.K W2 H2 S → Go W H W2 H2 → Reps B.K W2 (ar ds zs) vs3 → (∀ a o, H a = some o → H2 a = some o) → ∃ (en : En) (ρ0 : List Sl) (D : DEnds), en.pin = none ∧ Rs B.K en W2 (L2.start N (pre ++ vs3)) H2 ρ0 S ∧ t D ρ0 S ∧
      (∀ σ' H' W' ρ' S', Rs B.K en W' σ' H' ρ' S' → W2.Le W' → D.nx ρ' S' → Q .non H') ∧ (∀ v H' W' σ' ρ' d S', Rs B.K en W' σ' H' ρ' S' → W2.Le W' → Rep B.K W' d v → D.rt d ρ' S' → Q v H') ∧
      (∀ ρ S, ¬ D.bk ρ S) ∧ (∀ ρ S, ¬ D.ct ρ S) ∧ ∀ cls d σ' H', XT B.K en W2 D.ex cls d σ' H' → E cls d H') :
    codeAny (model B.P B.w) A (.call (.ref f) ⟨preU ++ us, ks.zip us'⟩) (CR (L2.CX B.P B.w) outer B.P B.w H s Q E) s :=
  run_defA F Sc hot bm hd hm hok hr e0 KX ho rp rd rz rv rw' (fun _ _ _ _ _ _ _ _ => trivial) hq
/-- what is wanted of a def's body -/
abbrev fnD (Ex : XS) (Q : QO) : DEnds := ⟨fun _ S' => Q (.v .non) S', fun d _ S' => Q (.v d) S', fun _ _ => False, fun _ _ => False, fun _ => Ex⟩
theorem call_def (F : FunD B.K x qual params body scope dvs kws f fd) (Sc : FnScope N ps scope) (hot : B.hot = false) (bm : BindM B fd ps 0 ks ok ar) (hd : DSs (fnCf B k N scope) body t) {ds zs : List D} {S : Sto} {Ex : XS} {Q : QO} (hok : ok ds zs)
    (hq : t (fnD Ex Q) (startS N.length (ar ds zs)) S) : sFun B (k + 1) (.ref f) ks ds zs S Ex Q := by
  intro A outer s W H en σ vs ws us us' hr e0 KX ho rx rz rv rw'
  refine run_def F Sc hot bm hd (pre := []) (preU := []) (Q := Nx B.K en W H Q) (E := WE (XN B.K W H σ Ex) σ) rfl hok hr e0 KX ho .nil rx rz rv rw' fun W2 H2 vs3 h2 g2 r3 kp => ?_
  refine ⟨⟨W, H, 0, none⟩, startS N.length (ar ds zs), fnD Ex Q, rfl, start_rs h2 g2 r3, hq, fun σ' H' W' ρ' S' r l q => ?_, fun v H' W' σ' ρ' d S' r l rp q => ?_, fun _ _ z => z, fun _ _ z => z, fun cls d σ' H' ⟨C, fs, W', ρ', S', xr, r, l, q⟩ => ?_⟩
  · exact ⟨W', .v .non, S', r.ho, r.go, .non, q⟩
  · exact ⟨W', .v d, S', r.ho, r.go, rp, q⟩
  · exact ⟨rfl, C, fs, W', S', xr, r.ho, r.go, q⟩
end
end Dt

set_option Elab.async false
set_option linter.all false
set_option maxRecDepth 100000
set_option maxHeartbeats 8000000
/-! DatH: instances: made, read, stored; methods, properties, classmethods, operators -/
namespace Dt
open PySem PySem.Spec PyProof.Rows L2 My
section
variable {K : PySem.W.Frag} {en : En} {W W1 : Wd} {H H1 : Hp} {S : Sto} {p : Addr} {o u : HO}
/-- a new object of no note -/
theorem Ho.new (h : Ho K W H S) (n : H p = none) : Ho K W (upd H p o) S :=
  ⟨h.n, fun a u e => upd_keep n (h.fh a u e), h.inj, h.mF, fun i hi => let ⟨u, e⟩ := h.there i hi; ⟨u, upd_keep n e⟩, fun i c e => (h.cel i c e).le .refl fun u q => upd_keep n q⟩
theorem Go.new (g : Go W H W1 H1) (n : H1 p = none) : Go W H W1 (upd H1 p o) := ⟨g.le, g.fn, fun a u e k => upd_keep n (g.kp a u e k), g.mn⟩
/-- an object of our own becomes one of the store -/
theorem Ho.cell2 {c : Cell} (h : Ho K W H S) (e : H p = some u) (nf : W.F p = none) (nm : ∀ i, i < W.n → W.m i ≠ p) (r : RelC K (W.cell p) H p c) : Ho K (W.cell p) H (S ++ [c]) where
  n := by
    show W.n + 1 = _
    rw [h.n, List.length_append] <;> rfl
  fh := h.fh
  inj := fun i j hi hj e => by
    have hi : i < W.n + 1 := hi
    have hj : j < W.n + 1 := hj
    by_cases z1 : i = W.n
    · subst z1
      by_cases z2 : j = W.n
      · exact z2.symm
      · rw [Wd.cell_new, Wd.cell_at (by omega)] at e
        exact absurd e.symm (nm j (by omega))
    · by_cases z2 : j = W.n
      · subst z2
        rw [Wd.cell_new, Wd.cell_at (by omega)] at e
        exact absurd e (nm i (by omega))
      · rw [Wd.cell_at (by omega), Wd.cell_at (by omega)] at e
        exact h.inj i j (by omega) (by omega) e
  mF := fun i hi => by
    have hi : i < W.n + 1 := hi
    by_cases z : i = W.n
    · subst z
      rw [Wd.cell_new]
      exact nf
    · rw [Wd.cell_at (by omega)]
      exact h.mF i (by omega)
  there := fun i hi => by
    have hi : i < W.n + 1 := hi
    by_cases z : i = W.n
    · subst z
      rw [Wd.cell_new]
      exact ⟨u, e⟩
    · rw [Wd.cell_at (by omega)]
      exact h.there i (by omega)
  cel := fun i d q => by
    by_cases z : i < S.length
    · rw [List.getElem?_append_left z] at q
      rw [Wd.cell_at (by rw [h.n]; exact z)]
      exact (h.cel i d q).le Wd.cell_le fun u y => y
    · rw [List.getElem?_append_right (by omega)] at q
      have z2 : i = S.length := by
        have := (List.getElem?_eq_some_iff.mp q).1
        simp only [List.length_cons, List.length_nil] at this
        omega
      subst z2
      rw [Nat.sub_self, List.getElem?_cons_zero] at q
      cases q
      rw [← h.n, Wd.cell_new]
      exact r
theorem Go.cell2 (g : Go W H W1 H1) (n : H p = none) : Go W H (W1.cell p) H1 where
  le := g.le.trans Wd.cell_le
  fn := g.fn
  kp := g.kp
  mn := fun i h1 h2 => by
    have h2 : i < W1.n + 1 := h2
    by_cases z : i = W1.n
    · subst z
      rw [Wd.cell_new]
      exact n
    · rw [Wd.cell_at (by omega)]
      exact g.mn i h1 (by omega)
end
theorem env0_made {P : Program} {w : World} {K : PySem.W.Frag} {mg : Str → Option Value} {base : Heap} {A : Around} {outer : List Env} {s : Shared} {H : Hp} {C : Addr} (e : Env0 P w K mg base A outer s H) (KX : K.In s.heap) :
    Env0 P w K mg base A outer { s with heap := (s.heap.push PySem.W.emptyDict).push (PySem.W.instObj C s.heap.objs.size) } (upd (upd H s.heap.objs.size (.own (s.heap.objs.size + 1))) (s.heap.objs.size + 1) (.ins C s.heap.objs.size [])) ∧
    K.In ((s.heap.push PySem.W.emptyDict).push (PySem.W.instObj C s.heap.objs.size)) ∧
    Un (frs outer) [] H (upd (upd H s.heap.objs.size (.own (s.heap.objs.size + 1))) (s.heap.objs.size + 1) (.ins C s.heap.objs.size [])) s.heap ((s.heap.push PySem.W.emptyDict).push (PySem.W.instObj C s.heap.objs.size)) ∧ True := by
  have e1 : (s.heap.push PySem.W.emptyDict).get? s.heap.objs.size = some PySem.W.emptyDict := Heap.get?_push_size s.heap rfl
  have sz : (s.heap.push PySem.W.emptyDict).objs.size = s.heap.objs.size + 1 := Heap.size_push _ _
  have e2 : ((s.heap.push PySem.W.emptyDict).push (PySem.W.instObj C s.heap.objs.size)).get? (s.heap.objs.size + 1) = some (PySem.W.instObj C s.heap.objs.size) := by
    have := Heap.get?_push_size (s.heap.push PySem.W.emptyDict) (o := PySem.W.instObj C s.heap.objs.size) rfl
    rwa [sz] at this
  have e3 : (s.heap.push PySem.W.emptyDict).Ns s.heap.objs.size (fun _ => none) := ⟨PySem.W.emptyDict, #[], _, e1, rfl, (fun e he => absurd he (by simp)), fun _ => rfl⟩
  have n1 : H s.heap.objs.size = none := e.hok.fresh (Nat.le_refl _)
  have E1 := StX.env0_laid (u := .own (s.heap.objs.size + 1)) (o := PySem.W.emptyDict) e ⟨_, e1⟩
  have U1 := StX.un_laid (fs := frs outer) (s := s) (o := PySem.W.emptyDict) (u := .own (s.heap.objs.size + 1)) n1
  have n2 : (upd H s.heap.objs.size (.own (s.heap.objs.size + 1))) (s.heap.push PySem.W.emptyDict).objs.size = none := E1.hok.fresh (Nat.le_refl _)
  have ne : s.heap.objs.size ≠ s.heap.objs.size + 1 := Nat.ne_of_lt (Nat.lt_succ_self _)
  have ok2 : ObjOk P w (upd (upd H s.heap.objs.size (.own (s.heap.objs.size + 1))) (s.heap.push PySem.W.emptyDict).objs.size (.ins C s.heap.objs.size [])) ((s.heap.push PySem.W.emptyDict).push (PySem.W.instObj C s.heap.objs.size)) (s.heap.push PySem.W.emptyDict).objs.size (.ins C s.heap.objs.size []) := by
    rw [sz]
    exact ⟨by rw [upd_ne ne, upd_same], Nat.zero_le _, ne, e2, fun _ => none, (Heap.Ns1.of_empty e3).at fun o q => Heap.get?_push_of_some _ q, fun _ => True.intro, fun y hy => absurd rfl hy⟩
  have E2 := StX.env0_laid (s := { s with heap := s.heap.push PySem.W.emptyDict }) (u := .ins C s.heap.objs.size []) (o := PySem.W.instObj C s.heap.objs.size) E1 ok2
  have U2 := StX.un_laid (fs := frs outer) (s := { s with heap := s.heap.push PySem.W.emptyDict }) (o := PySem.W.instObj C s.heap.objs.size) (u := .ins C s.heap.objs.size []) n2
  refine ⟨?_, KX.keeps fun b o q => Heap.get?_push_of_some _ (Heap.get?_push_of_some _ q), ?_, trivial⟩
  · have E2' := E2
    dsimp only at E2'
    rw [sz] at E2'
    exact E2'
  · have U2' := U1.trans U2
    dsimp only at U2'
    rw [sz] at U2'
    exact U2'
section
variable {B : Bs} {x qual C : Str} {params : Arguments} {body : List Stmt} {scope : Scope} {dvs : List V} {kws : List (Str × V)} {f : Addr} {fd : FuncData} {N ps ks : List Str} {m k : Nat} {ok : List D → List D → Prop} {ar : List D → List D → List D} {t : RS} {S : Sto} {Ex : XS} {Q : QO}
/-! ### C(..) -/
abbrev mkD (C : Str) (Ex : XS) (Q : QO) : DEnds where
  nx := fun ρ S' => ∃ fs, ρ[0]? = some (.slf C fs) ∧ (Q (.v (.ins C fs)) S' ∨ Q (.v (.ptr S'.length)) (S' ++ [.ins C fs]))
  rt := fun d ρ S' => d = .non ∧ ∃ fs, ρ[0]? = some (.slf C fs) ∧ (Q (.v (.ins C fs)) S' ∨ Q (.v (.ptr S'.length)) (S' ++ [.ins C fs]))
  bk := fun _ _ => False
  ct := fun _ _ => False
  ex := fun _ => Ex
def startM (C : Str) (n : Nat) (ds : List D) : List Sl := .slf C [] :: startS (n - 1) ds
theorem call_mk (M : Mg B.K (He.ga B.K C) f) (F : FunD B.K x qual params body scope dvs kws f fd) (Sc : FnScope N ps scope) (hot : B.hot = false) (bm : BindM B fd ps 1 ks ok ar) (hd : DSs (fnCf B k N scope) body t) {ds zs : List D} (hok : ok ds zs)
    (hq : t (mkD C Ex Q) (startM C N.length (ar ds zs)) S) (hN : 0 < N.length := by decide) : sFun B (k + 2) (.ref (He.ga B.K C)) ks ds zs S Ex Q := by
  intro A outer s W H en σ xs' zs' us ws rg e0' KX' ho rx rz rv rw'
  have hx : H (s.heap.objs.size + 1) = none := e0'.hok.fresh (Nat.le_succ _)
  have hdx : H s.heap.objs.size = none := e0'.hok.fresh (Nat.le_refl _)
  obtain ⟨e0, KX, un0, os0⟩ := env0_made (C := He.ga B.K C) e0' KX'
  have hx1 : upd H s.heap.objs.size (.own (s.heap.objs.size + 1)) (s.heap.objs.size + 1) = none := by
    rw [upd_ne (Nat.succ_ne_self _)]
    exact hx
  have key := run_def F Sc hot bm hd (A := A.under (.builtin "type.__call__" ⟨.ref (He.ga B.K C) :: us, ks.zip ws⟩)) (pre := [.ref (s.heap.objs.size + 1)]) (preU := [.ref (s.heap.objs.size + 1)]) (W := W) (S := S)
    (Q := fun v H' => v = .non ∧ Nx B.K en W H Q (.ref (s.heap.objs.size + 1)) H') (E := WE (XN B.K W H σ Ex) σ) rfl hok (RG.make rg _ us (ks.zip ws)) (e0.make _ us (ks.zip ws)) KX ((ho.new hdx).new hx1) (.cons rfl .nil) rx rz rv rw' fun W2 H2 vs3 h2 g2 r3 kp => by
    have gg : Go W H W2 H2 := ((Go.refl.new hdx).new hx1).trans g2 h2
    have e2 : H2 (s.heap.objs.size + 1) = some (.ins (He.ga B.K C) s.heap.objs.size []) := kp _ _ upd_same
    have nF : W2.F (s.heap.objs.size + 1) = none := by
      cases q : W2.F (s.heap.objs.size + 1) with
      | none => rfl
      | some y =>
        rcases g2.fn _ y q with z | z
        · have := ho.fh _ _ z
          rw [hx] at this
          cases this
        · rw [upd_same] at z
          cases z
    have nM : ∀ i, i < W2.n → W2.m i ≠ s.heap.objs.size + 1 := fun i hi c => by
      by_cases z : i < W.n
      · obtain ⟨y, ey⟩ := ho.there i z
        rw [← gg.le.m i z, c, hx] at ey
        cases ey
      · have := g2.mn i (Nat.not_lt.mp z) hi
        rw [c, upd_same] at this
        cases this
    have fin : ∀ {W' : Wd} {σ' : L2.St} {H' : Hp} {ρ' : List Sl} {S' : Sto}, Rs B.K ⟨W, H, s.heap.objs.size + 1, none⟩ W' σ' H' ρ' S' → (∃ fs, ρ'[0]? = some (.slf C fs) ∧ (Q (.v (.ins C fs)) S' ∨ Q (.v (.ptr S'.length)) (S' ++ [.ins C fs]))) → Nx B.K en W H Q (.ref (s.heap.objs.size + 1)) H' := fun {W' σ' H' ρ' S'} r ⟨fs, e, q⟩ => by
      obtain ⟨dx, vs, _, eH, rf, w⟩ := r.sl 0 _ e
      have w : Own ⟨W, H, s.heap.objs.size + 1, none⟩ W' H' (s.heap.objs.size + 1) := w
      have eH : H' (s.heap.objs.size + 1) = some (.ins (He.ga B.K C) dx vs) := eH
      rcases q with q | q
      · exact ⟨_, .v (.ins C fs), S', r.ho.frz2 eH w.f w.m, Go.frz2 (K := B.K) r.go hx w.f, .ins upd_same (rf.le (W'.frz_le w.f)), q⟩
      · refine ⟨_, .v (.ptr S'.length), _, r.ho.cell2 (c := .ins C fs) eH w.f w.m ⟨dx, vs, eH, rf.le Wd.cell_le⟩, r.go.cell2 hx, ?_, q⟩
        have z : Rep B.K (W'.cell (s.heap.objs.size + 1)) (.ptr W'.n) (.ref ((W'.cell (s.heap.objs.size + 1)).m W'.n)) := .ptr (Nat.lt_succ_self _)
        rw [Wd.cell_new, r.ho.n] at z
        exact z
    refine ⟨⟨W, H, s.heap.objs.size + 1, none⟩, startM C N.length (ar ds zs), mkD C Ex Q, rfl, ?_, hq, fun σ' H' W' ρ' S' r l q => ⟨rfl, fin r q⟩, fun v H' W' σ' ρ' d S' r l rp q => ?_, fun _ _ z => z, fun _ _ z => z, fun cls d σ' H' ⟨C', fs, W', ρ', S', xr, r, l, q⟩ => ⟨rfl, C', fs, W', S', xr, r.ho, r.go, q⟩⟩
    · have base := start_rs (K := B.K) (en := ⟨W, H, s.heap.objs.size + 1, none⟩) (N := N.tail) h2 gg r3
      have hlen : N.tail.length = N.length - 1 := List.length_tail
      refine ⟨base.ho, base.go, ?_, fun i sl e => ?_, fun i j sl t a ne e1 o1 e2' o2 q1 q2 => ?_⟩
      · unfold startM startS L2.start
        simp only [List.length_cons, List.length_append, List.length_map, List.length_replicate, List.length_nil, r3.len]
        omega
      · cases i with
        | zero =>
          cases e
          refine ⟨s.heap.objs.size, [], ?_, e2, .nil, nF, hx, nM⟩
          unfold L2.start
          rfl
        | succ i =>
          have e' : (startS (N.length - 1) (ar ds zs))[i]? = some sl := e
          rw [← hlen] at e'
          have k := base.sl i sl e'
          have q : (L2.start N ([V.ref (s.heap.objs.size + 1)] ++ vs3))[i + 1]? = (L2.start N.tail vs3)[i]? := by
            unfold L2.start
            have : N.length - ([V.ref (s.heap.objs.size + 1)] ++ vs3).length = N.tail.length - vs3.length := by
              rw [hlen]
              simp only [List.length_append, List.length_cons, List.length_nil]
              omega
            rw [this]
            rfl
          rw [q]
          exact k
      · have own0 : ∀ {i : Nat} {sl : Sl}, (startM C N.length (ar ds zs))[i]? = some sl → isOwn sl = true → i = 0 := fun {i sl} e o => by
          cases i with
          | zero => rfl
          | succ i =>
            have e' : (startS (N.length - 1) (ar ds zs))[i]? = some sl := e
            unfold startS at e'
            by_cases hi : i < (ar ds zs).length
            · rw [List.getElem?_append_left (by rw [List.length_map]; exact hi), List.getElem?_map, List.getElem?_eq_getElem hi] at e'
              cases e'
              cases o
            · rw [List.getElem?_append_right (by rw [List.length_map]; omega), List.getElem?_replicate] at e'
              split at e'
              · cases e'
                cases o
              · cases e'
        exact ne ((own0 e1 o1).trans (own0 e2' o2).symm)
    · obtain ⟨ed, q⟩ := q
      subst ed
      cases rp
      exact ⟨rfl, fin r q⟩
  refine make_map (K := B.K) (f := f) KX' M.makes M.init (beq_iff_eq.mp M.fn) (codeAny_mono key fun y s' hq' => ?_)
  match y, hq' with
  | .error er, hq' =>
    have hq2 : L2.CX B.P B.w outer (upd (upd H s.heap.objs.size (.own (s.heap.objs.size + 1))) (s.heap.objs.size + 1) (.ins (He.ga B.K C) s.heap.objs.size [])) { s with heap := (s.heap.push PySem.W.emptyDict).push (PySem.W.instObj (He.ga B.K C) s.heap.objs.size) } (WE (XN B.K W H σ Ex) σ) er s' := hq'
    exact StX.cxUp outer s H { s with heap := (s.heap.push PySem.W.emptyDict).push (PySem.W.instObj (He.ga B.K C) s.heap.objs.size) } _ _ er s' un0 (fun b o e => Heap.get?_push_of_some _ (Heap.get?_push_of_some _ e)) rfl hq2
  | .ok (.ret u), hq' =>
    obtain ⟨v, H', o1, b1, u1, h1, rv', ev, q3⟩ := hq'
    subst ev
    exact ⟨rv', V.ref (s.heap.objs.size + 1), H', o1, b1, un0.trans u1, h1, rfl, q3⟩
end
end Dt

set_option Elab.async false
set_option linter.all false
set_option maxRecDepth 100000
set_option maxHeartbeats 8000000
/-! DatI: fields, properties, methods, classmethods, stores of fields -/
namespace Dt
open PySem PySem.Spec PyProof.Rows L2 My
/-- an instance of the class C with these fields -/
def IsI (S : Sto) : O → Str → List (Str × D) → Prop
  | .v (.ins C fs), C', fs' => C' = C ∧ fs' = fs
  | .v (.ptr i), C', fs' => S[i]? = some (.ins C' fs')
  | .s C fs, C', fs' => C' = C ∧ fs' = fs
  | _, _, _ => False
theorem isI_ins {S : Sto} {C : Str} {fs : List (Str × D)} : IsI S (.v (.ins C fs)) C fs := ⟨rfl, rfl⟩
abbrev ClD (K : PySem.W.Frag) (C : Str) : Prop := Cls K (He.ga K C)
abbrev NoA (K : PySem.W.Frag) (C f : Str) : Prop := NoAttr K (He.ga K C) f
section
variable {K : PySem.W.Frag} {en : En} {W : Wd} {H : Hp} {S : Sto} {o : O} {C : Str} {fs : List (Str × D)} {v : V}
theorem isI_at (ho : Ho K W H S) (h : IsI S o C fs) (r : RepO K en W H o v) : ∃ a dx vs, v = .ref a ∧ H a = some (.ins (He.ga K C) dx vs) ∧ RepF K W fs vs := by
  cases o with
  | v d =>
    cases r with
    | ins q r =>
      obtain ⟨rfl, rfl⟩ := h
      exact ⟨_, _, _, rfl, ho.fh _ _ q, r⟩
    | ptr hi =>
      obtain ⟨dx, vs, e, r⟩ := ho.cel _ _ h
      exact ⟨_, dx, vs, rfl, e, r⟩
    | _ => exact h.elim
  | b xs => exact h.elim
  | bd xs => exact h.elim
  | s D gs =>
    obtain ⟨rfl, rfl⟩ := h
    obtain ⟨dx, vs, e, q, r, _⟩ := r
    exact ⟨_, dx, vs, e, q, r⟩
end
section
variable {B : Bs} {k : Nat} {f C : Str} {fs : List (Str × D)} {o : O} {d : D} {S : Sto} {Ex : XS} {Q : QO}
/-- o.f, f a field -/
theorem sAttr_f (i : IsI S o C fs) (c : ClD B.K C) (n : NoA B.K C f) (l : fs.lookup f = some d) (q : Q (.v d) S) : sAttr B k f o S Ex Q := by
  intro X en W σ H ft tk ho x' ro pins s v I rv
  obtain ⟨a, dx, vs, rfl, ea, rf⟩ := isI_at ho i ro
  obtain rfl : v = Value.ref a := rv
  rcases rf.look f with ⟨d', w, e1, e2, r⟩ | ⟨e1, _⟩
  · rw [l] at e1
    cases e1
    rw [← ft.K] at c n ea
    exact getattr_ok I ea c n e2 fun u s2 I2 ru => ⟨w, H, I2, ru, W, .v d, S, ho, .refl, r, q⟩
  · rw [l] at e1
    cases e1
def noX : XS := fun _ _ _ => False
end
section
variable {G : Cf} {X : Cx} {en : En} {W W1 : Wd} {σ : L2.St} {H H1 : Hp} {ρ : List Sl} {S S1 : Sto} {E : XD} {pins : List (Addr × Obj)} {s s1 : Shared} {e a b c o : Expr} {es : List Expr} {kws : List Keyword} {t ta tb tc te to tv : RE} {tA tK : RA} {pos p apos pos' : Pos} {x m : Str}
/-! ### methods -/
abbrev mAd (K : PySem.W.Frag) (C m : Str) : Addr := He.ma K (He.ga K C) m
/-- the object's class has the method m -/
def MtD (K : PySem.W.Frag) (m : Str) (d : D) (S : Sto) (C : Str) : Prop := ∃ fs, IsI S (.v d) C fs ∧ Cls K (He.ga K C) ∧ Meth K (He.ga K C) m (mAd K C m) ∧ fs.lookup m = none
abbrev MethTx (o : Expr) (m : Str) (apos pos : Pos) (es : List Expr) (kws : List Keyword) : Prop := ∀ env : Env, ∃ pl : Sem Bool, eval (.Call (.Attribute o m apos) es kws pos) env = (do
      let ov ← eval o env
      standAt apos.atName
      let (f, first) ← holding [ov] (getMethod ov m pl)
      callWith pos f first (backTo pos (starEach es env)) (backToKw pos (keywordEach kws env)))
theorem MtD.get {K : PySem.W.Frag} {m : Str} {d : D} {C : Str} {x' : V} {v : Value} {pl : Sem Bool} {A : Around} {Q : Value × List Value → Shared → Prop} {E2 : Value → Shared → Prop} (h : MtD K m d S C) (e : X.K = K) (ho : Ho K W H S) (r : Rep K W d x') (I : Inv X pins σ H s) (rv : RelV x' v) (q : Q (.ref (mAd K C m), [v]) s) :
    wpAny (model X.prog X.w) A (getMethod v m pl) Q E2 s := by
  obtain ⟨fs, i, c, mt, l⟩ := h
  subst e
  obtain ⟨a, dx, vs, rfl, ea, rf⟩ := isI_at (en := ⟨W, H, 0, none⟩) ho i r
  obtain rfl : v = Value.ref a := rv
  have l2 : vs.lookup m = none := by
    rcases rf.look m with ⟨d', w, e1, e2, r⟩ | ⟨_, e2⟩
    · rw [l] at e1
      cases e1
    · exact e2
  exact getmeth_ok I ea c mt l2 q
abbrev dCm (B : Bs) (k : Nat) (m : Str) (to : RE) (tA : RA) : RE := fun ρ S E Q => to ρ S E fun x S1 => ∃ C q, x = .v (.cls C) ∧ ClX.CRead B.K (He.ga B.K C) (.type "type") ∧ ClX.CMet B.K (He.ga B.K C) (.type "type") m (mAd B.K C m) q ∧ tA ρ S1 E fun os S2 => ∃ ds, Sol os ds ∧ sFun B k (.ref q) [] (.cls C :: ds) [] S2 (E ρ) Q
theorem XN.pin {K : PySem.W.Frag} {W : Wd} {H : Hp} {σ : L2.St} {Ex : XS} (tk : Takes X (XN K W H σ Ex)) : Takes X (XN K W H σ Ex) := tk
theorem de_cm (hc : G.B.hot = false) (ho : DE G o to) (ha : DA G (e :: es) tA) (hst : ∀ env : Env, starEach (e :: es) env = (false, eval e env) :: starEach es env := by intro _; rfl) (hpl : ∀ env : Env, (backTo pos (starEach es env)).any (·.1) = false := by intro _; rfl)
    (ht : MethTx o m apos pos (e :: es) [] := by intro _; exact ⟨_, rfl⟩) : DE G (.Call (.Attribute o m apos) (e :: es) [] pos) (dCm G.B G.k m to tA) := by
  refine ⟨fun {X en W σ H ρ S E pins s Q} z q => ?_⟩
  obtain ⟨pl, ht⟩ := ht X.env
  refine PySem.W.methodCall_KW (pl := pl) (ho.at z q fun v s1 x' H1 W1 o1 S1 z1 g1 r1 ro ⟨C, qq, eo, cr, cm, q1⟩ => ?_) ht
  subst eo
  cases ro
  obtain rfl : v = Value.ref (He.ga G.B.K C) := r1
  have cr' : ClX.CRead X.K (He.ga G.B.K C) (.type "type") := by rw [z.hf.b.K]; exact cr
  have cm' : ClX.CMet X.K (He.ga G.B.K C) (.type "type") m (mAd G.B.K C m) qq := by rw [z.hf.b.K]; exact cm
  refine ClX.getmethcm_ok z1.I cr' cm' fun s2 I2 => ?_
  refine ClX.callwith_cm I2 (ClX.base_none z1.I (Nat.le_refl _)) cm'.fi (ha.at pos (z1.re I2) q1 fun us s3 vs H2 W2 os S2 z2 g2 r2 ro2 ⟨ds, so, q2⟩ => ⟨⟨ClX.pin_at z2.I, z2.I.kIn⟩, ?_⟩) (hst _) (hpl _)
  subst so
  have z3 : wpAny (model X.prog X.w) X.A (call (.ref s1.heap.objs.size) us) (EP X ((s1.heap.objs.size, PySem.W.methodObj (.ref qq) (.ref (He.ga G.B.K C))) :: pins) σ (Nx G.B.K en W2 H2 Q)) X.xe s3 := by
    obtain ⟨e0, KX⟩ := fits_env z2.hf.b z2.I
    have key := q2 X.A X.stack s3 W2 H2 en σ (.ref (He.ga G.B.K C) :: vs) [] (.ref (He.ga G.B.K C) :: us) [] (z2.hf.b.rg hc) e0 KX z2.rs.ho (.cons (.cls C) (Sol.rep ro2)) .nil (.cons rfl r2) .nil
    rw [← z2.hf.b.P, ← z2.hf.b.w] at key
    refine wpAny_call (PySem.W.method_call (ClX.pin_at z2.I) (codeAny_mono key fun y s' hq => ?_))
    match y, hq with
    | .error er, hq => exact passAt z2.xn σ _ H2 s3 er s' z2.I hq
    | .ok (.ret u), hq => exact z2.I.after hq
  exact thn z3 fun _ _ y => ep_back (g1.trans g2 z2.rs.ho) (ClX.unpinE y)
/-! ### o.f = v -/
def dFldS (i : Nat) (f : Str) (K : PySem.W.Frag) (tv : RE) : RS := fun D ρ S => tv ρ S D.ex fun y S1 => ∃ d C fs, y = .v d ∧ ρ[i]? = some (.slf C fs) ∧ Cls K (He.ga K C) ∧ NoAttr K (He.ga K C) f ∧ fs.length < 1000 ∧ D.nx (ρ.set i (.slf C (putD f d fs))) S1
theorem ds_self {i : Nat} {f : Str} {v : Expr} (hi : G.N[i]? = some x) (hv : Vis G.sc x) (he : DE G v tv) (hd : (x == ("__debug__" : Str)) = false := by decide) (hcd : (x == ("__classdict__" : Str)) = false := by decide)
    (hs : ∀ env : Env, swapsWith v (some (.Attribute (.Name x p) f pos')) pos.line env = pure false := by intro _; rfl) : DS G (.Assign [.Attribute (.Name x p) f pos'] v pos) (dFldS i f G.B.K tv) := by
  refine ⟨fun {X en W σ H ρ S pins s D} z q => ?_⟩
  have P0 : PE X (.Name x p) (tVar i) := z.name hi hv hd hcd
  refine plainObj_wpAny_Assign_Attribute (he.at z q fun u s1 y' H1 W1 o S1 z1 g1 r1 ro ⟨d, C, fs, eo, e1, c, n, l, q1⟩ => ?_) (hs _)
  subst eo
  obtain ⟨dx, vs, e2, ea, rf, w⟩ := z1.rs.sl i _ e1
  refine thn (P0.run pins s1 σ H1 (fun v' H' => v' = .ref en.me ∧ H' = H1) z1.I ⟨_, e2, rfl, rfl⟩) fun ov s2 ⟨v', H2, I2, rx, ev, eh⟩ => ?_
  subst ev eh
  obtain rfl : ov = Value.ref en.me := rx
  have c' : Cls X.K (He.ga G.B.K C) := by rw [z.hf.b.K]; exact c
  have n' : NoAttr X.K (He.ga G.B.K C) f := by rw [z.hf.b.K]; exact n
  refine setattr_ok I2 ea c' n' (by rw [rf.len]; exact l) r1 fun s3 I3 => ?_
  exact ⟨σ, _, I3, W1, ρ.set i (.slf C (putD f d fs)), S1, z1.rs.put e1 rfl rfl e2 w ⟨dx, _, rfl, upd_same, rf.put f ro, w.f, w.e, w.m⟩, g1.le, q1⟩
/-- o an object of the store -/
def dFldP (K : PySem.W.Frag) (f : Str) (to tv : RE) : RS := fun D ρ S => tv ρ S D.ex fun y S1 => to ρ S1 D.ex fun x S2 => ∃ d j C fs, y = .v d ∧ x = .v (.ptr j) ∧ S2[j]? = some (.ins C fs) ∧ Cls K (He.ga K C) ∧ NoAttr K (He.ga K C) f ∧ fs.length < 1000 ∧ D.nx ρ (S2.set j (.ins C (putD f d fs)))
end
end Dt

set_option Elab.async false
set_option linter.all false
set_option maxRecDepth 100000
set_option maxHeartbeats 8000000
/-! DatJ: errors: raised, caught, told of -/
namespace Dt
open PySem PySem.Spec PyProof.Rows L2 My He
open PySem.HandSPX
section
variable {K : PySem.W.Frag} {en : En} {W W1 : Wd} {H H' : Hp} {S : Sto} {p : Addr} {o u : HO}
theorem RepF.zip : ∀ {fl : List Str} {ds : List D} {vs : List V}, fl.length = ds.length → Reps K W ds vs → RepF K W (fl.zip ds) (fl.zip vs)
  | [], _, _, _, _ => .nil
  | _ :: _, _, _, h, .nil => by cases h
  | _ :: _, _, _, h, .cons r t => .cons r (RepF.zip (Nat.succ.inj h) t)
theorem RepF.app : ∀ {xs ys : List (Str × D)} {vs us : List (Str × V)}, RepF K W xs vs → RepF K W ys us → RepF K W (xs ++ ys) (vs ++ us)
  | _, _, _, _, .nil, h => h
  | _, _, _, _, .cons r t, h => .cons r (t.app h)
theorem RepF.rev : ∀ {xs : List (Str × D)} {vs : List (Str × V)}, RepF K W xs vs → RepF K W xs.reverse vs.reverse
  | _, _, .nil => .nil
  | _, _, .cons h t => by
    rw [List.reverse_cons, List.reverse_cons]
    exact t.rev.app (.cons h .nil)
end
/-! ### raise C(..) -/
/-- C.__init__: self.f = a for each a -/
def spErrL (C : Addr) (fl : List Str) : Sp := fun vs H Q _ => ∃ (a : Addr) (ws : List V), vs = .ref a :: ws ∧ ws.length = fl.length ∧ H a = some (exo a C none) ∧
  ∀ dx H2, H dx = none → dx ≠ a → H2 a = some (exo a C (some dx)) → H2 dx = some (exd dx (fl.zip ws).reverse) → (∀ q, q ≠ a → q ≠ dx → H2 q = H q) → Q .non H2
structure ErD (B : Bs) (C : Str) (fl : List Str) : Prop where
  ok : ErrOk B.K (He.ga B.K C) (mAd B.K C "__init__")
  g : B.mg C = some (.ref (He.ga B.K C))
  fn : ∃ fd ps, FnOk B.P B.w B.K B.mg B.base CX0 1 (mAd B.K C "__init__") fd ps (spErrL (He.ga B.K C) fl) ∧ Binds B.K fd ps []
section
variable {G : Cf} {X : Cx} {en : En} {W W1 : Wd} {σ : L2.St} {H H1 : Hp} {ρ : List Sl} {S S1 : Sto} {E : XD} {pins : List (Addr × Obj)} {s s1 : Shared} {e a b c o : Expr} {es : List Expr} {kws : List Keyword} {t ta tb tc te to tv : RE} {tA tK : RA} {pos p apos pos' : Pos} {x m : Str}
def dRaise (C : Str) (fl : List Str) (tA : RA) : RS := fun D ρ S => tA ρ S D.ex fun os S1 => ∃ ds, Sol os ds ∧ ds.length = fl.length ∧ D.ex ρ C (fl.zip ds).reverse S1
end
/-! ### try: .. except .. -/
inductive CT where
  | one (c : Value) | three (cs : List Value)
def CT.is (K : PySem.W.Frag) (cls : Value) : CT → Bool → Prop
  | .one c, b => PySem.W.exmOne K cls c = some b
  | .three cs, b => PySem.W.exmAny K cls cs = some true ∧ b = true
structure HC where
  ct : CT
  i : Option Nat
  ts : Addr → Value → Option Addr → TS
def endsH (oi : Option Nat) (D : Ends) : Ends := match oi with
  | none => D
  | some i => { nx := fun σ' H' => D.nx (σ'.set i none) H', rt := D.rt, bk := fun σ' H' => D.bk (σ'.set i none) H', ct := fun σ' H' => D.ct (σ'.set i none) H' }
def stH (oi : Option Nat) (σ : L2.St) (a : Addr) : L2.St := match oi with
  | none => σ
  | some i => σ.set i (some (.ref a))
def wG (K : PySem.W.Frag) (n : Nat) (Wout : WX) (D : Ends) : List HC → WX
  | [] => Wout
  | c :: r => fun cls d σ H => ∃ b, c.ct.is K cls b ∧ (b = true → ∀ a, H a = none → σ.length = n → c.ts a cls d (endsH c.i D) (stH c.i σ a) H) ∧ (b = false → wG K n Wout D r cls d σ H)
inductive CName (X : Cx) : Expr → CT → Prop
  | one {x : Str} {c : Value} {np : Pos} (h : Names X x c) : CName X (.Name x np) (.one c)
  | two {x1 x2 : Str} {C1 C2 : Addr} {p1 p2 tp : Pos} {kk : Nat} (n1 : Names X x1 (.ref C1)) (n2 : Names X x2 (.ref C2)) : CName X (.Tuple [.Name x1 p1, .Name x2 p2] kk tp) (.three [.ref C1, .ref C2])
  | three {x1 x2 x3 : Str} {C1 C2 C3 : Addr} {p1 p2 p3 tp : Pos} {kk : Nat} (n1 : Names X x1 (.ref C1)) (n2 : Names X x2 (.ref C2)) (n3 : Names X x3 (.ref C3)) : CName X (.Tuple [.Name x1 p1, .Name x2 p2, .Name x3 p3] kk tp) (.three [.ref C1, .ref C2, .ref C3])
/-- a clause's name -/
inductive AsOk (X : Cx) : Option Str → Option Nat → Prop
  | no : AsOk X none none
  | yes {n : Str} {i : Nat} (hi : X.N[i]? = some n) (hl : X.env.kindOf n = some .local) : AsOk X (some n) (some i)
inductive HGs (X : Cx) : List ExceptHandler → List HC → Prop
  | nil : HGs X [] []
  | cons {te : Expr} {on : Option Str} {c : HC} {b₀ : Stmt} {suite : List Stmt} {pos' : Pos} {hds : List ExceptHandler} {l : List HC} (hc : CName X te c.ct) (ha : AsOk X on c.i)
      (hsu : ∀ (a : Addr) (oe : Obj) (cls : Value) (d : Option Addr) (pn : List (Addr × Obj)), Zc cls d oe → (∃ vs, oe.data = .fields vs) → PSs (X.suite a ((a, oe) :: pn)) (b₀ :: suite) (c.ts a cls d)) (r : HGs X hds l) :
      HGs X (.ExceptHandler (some te) on (b₀ :: suite) pos' :: hds) (c :: l)
def tup2 (C1 C2 : Addr) : Obj := { cls := .type "tuple", data := .seq [.ref C1, .ref C2].toArray }
theorem load2 {X : Cx} {x1 x2 : Str} {C1 C2 : Addr} {p1 p2 tp : Pos} {kk : Nat} {A : Around} {s : Shared} {Q E : Value → Shared → Prop} (h : ∀ {x : Str} {C : Addr} {p : Pos} {Q2 : Value → Shared → Prop}, (x, C) ∈ [(x1, C1), (x2, C2)] → Q2 (.ref C) s → wpAny (model X.prog X.w) A (eval (.Name x p) X.env) Q2 E s)
    (q : Q (.ref s.heap.objs.size) { s with heap := s.heap.push { cls := .type "tuple", data := .seq [.ref C1, .ref C2].toArray } }) :
    wpAny (model X.prog X.w) A (eval (.Tuple [.Name x1 p1, .Name x2 p2] kk tp) X.env) Q E s := by
  refine wpAny_Tuple ?_
  show wpAny _ _ (spliced ((false, eval (.Name x1 p1) X.env) :: (false, eval (.Name x2 p2) X.env) :: [])) _ _ _
  refine Calls.spliced_cons (h (C := C1) (by simp) (Calls.spliced_cons (h (C := C2) (by simp) (Calls.spliced_nil ⟨?_, q⟩))))
  show 2 ≤ sizeLine
  rw [sizeLine_eq]
  decide
section
variable {X : Cx} {body : List Stmt} {h₀ : ExceptHandler} {hds : List ExceptHandler} {l : List HC} {pos : Pos} {tb : WX → TS} {Wout : WX}
theorem ps_tryG (hs : X.stack = X.env :: X.outer) (hf : X.env.frame = some X.env.locals) (nd : X.N.Nodup) (tk : Takes X Wout)
    (hb : ∀ (W : WX) (pn : List (Addr × Obj)) (xe : Value → Shared → Prop), Takes (X.tr pn xe) W → PassesOwn (model X.prog X.w) X.A X.env xe → PSs (X.tr pn xe) body (tb W))
    (hh : HGs X (h₀ :: hds) l) : PS X (.Try body (h₀ :: hds) [] [] pos) (fun D σ H => tb (wG X.K X.N.length Wout D l) D σ H) := by
  refine ⟨fun pins s σ H D I h => ?_⟩
  have ok := I.ok
  have hfr : X.A.frames = some (X.env :: X.outer) := by rw [ok.frames, hs]
  refine wpAny_Try_except ?_
  refine wpAny_mono ((hb (wG X.K X.N.length Wout D l) (X.pn ++ pins) (fun e s₁ => wpAny (model X.prog X.w) X.A (noteFrame e X.env) (fun _ s₂ => wpAny (model X.prog X.w) X.A (setFlight e none) (fun _ s₃ =>
    wpAny (model X.prog X.w) X.A (handleBy e X.env (h₀ :: hds)) (SP X pins D) X.xe s₃) X.xe s₂) X.xe s₁) (fun u s' xx => ?_) PassesOwn.looking).run [] s σ H D (I.toTry _) h) (fun f s1 hsp => ?_) (fun e s1 he => he)
  · obtain ⟨a, B, sI, pins', σ', H', cls, d, rfl, J', nb, up, sky, na, os, ag, w⟩ := xx
    have J : Inv X pins σ' H' sI := J'.ofTry ok
    have sky' : Sky B (X.env :: X.outer) a (Zc cls d) X.env.locals s'.heap := by rw [← hs]; exact sky
    show wpAny (model X.prog X.w) X.A (noteFrame (.ref a) X.env) _ _ _
    refine Sky.land Zc.steady hfr hf sky' fun h3 fl3 up3 => ?_
    have J3 : Inv X pins σ' H' { s' with heap := h3 } := J.landed nb fl3.1 (up.trans up3) os ag
    obtain ⟨oe3, vs3, he3, hz3, hd3⟩ := fl3.there
    have off : ∀ {h : Heap} {o : Obj} {vs : Array Value}, FlyingZ B (X.env :: X.outer) a (Zc cls d) h → h.get? a = some o → o.data = .fields vs → a ≠ X.env.locals ∧ a ∉ X.fs := fun {h o vs} f e dd => by
      have no : a ∉ frs (X.env :: X.outer) := fun m => by
        obtain ⟨_, o2, e2, nf⟩ := f.2.2.1.mem m
        rw [e] at e2
        cases e2
        exact nf _ dd
      refine ⟨fun z => no (List.mem_filterMap.mpr ⟨X.env, List.mem_cons_self, hf.trans (congrArg some z.symm)⟩), fun m => ?_⟩
      obtain ⟨en, me, q⟩ := List.mem_filterMap.mp m
      exact no (List.mem_filterMap.mpr ⟨en, List.mem_cons_of_mem _ me, q⟩)
    obtain ⟨nL, nF⟩ := off fl3 he3 hd3
    have S3 := J3.suite he3 hd3 na nL nF
    let tup := fun (C1 C2 C3 : Addr) => ({ cls := .type "tuple", data := .seq [Value.ref C1, Value.ref C2, Value.ref C3].toArray } : Obj)
    have su : ∀ {g : Heap} {on : Option Str} {c : HC} {b₀ : Stmt} {suite : List Stmt} {pos' : Pos}, FlyingZ B (X.env :: X.outer) a (Zc cls d) g → sI.heap.UpToSlots g → AsOk X on c.i →
        (∀ (a : Addr) (oe : Obj) (cls : Value) (d : Option Addr) (pn : List (Addr × Obj)), Zc cls d oe → (∃ vs, oe.data = .fields vs) → PSs (X.suite a ((a, oe) :: pn)) (b₀ :: suite) (c.ts a cls d)) →
        (∀ a, H' a = none → σ'.length = X.N.length → c.ts a cls d (endsH c.i D) (stH c.i σ' a) H') →
        codeAny (model X.prog X.w) (X.A.mark (some (.ref a))) (.handlers (.ref a) [.ExceptHandler none on (b₀ :: suite) pos'] X.env) (fun r s₂ => match r with
          | .ok f => (match on with
            | none => SP X pins D f s₂
            | some n => wpAny (model X.prog X.w) X.A (do bindName X.env n .none; unbindBehindTheSuite X.env n pos') (fun _ s₃ => SP X pins D f s₃) X.xe s₂)
          | .error x => cameBackBy (model X.prog X.w) X.A X.env X.xe x s₂) { s' with heap := g } := by
      intro g on c b₀ suite pos' fl up ha hsu hyes
      obtain ⟨ct, ci, ts⟩ := c
      cases ha with
      | no =>
        refine codeAny_handlers_suite (lands_againZ fl fun g4 fl4 u4 => ?_)
        have J4 : Inv X pins σ' H' { s' with heap := g4 } := J.landed nb fl4.1 (up.trans u4) os ag
        obtain ⟨o4, v4, e4, z4, d4⟩ := fl4.there
        obtain ⟨l4, f4⟩ := off fl4 e4 d4
        have S4 := J4.suite e4 d4 na l4 f4
        refine wpAny_mono ((hsu a o4 cls d (X.pn ++ pins) z4 ⟨_, d4⟩).run [] _ _ H' _ S4 (hyes a na J.len)) (fun f t6 q6 => ?_) fun _ _ z => z.elim
        match f, q6 with
        | .next, ⟨τ, G, S6, q⟩ => exact ⟨_, _, S6.unsuite ok, q⟩
        | .brk, ⟨τ, G, S6, q⟩ => exact ⟨_, _, S6.unsuite ok, q⟩
        | .cont, ⟨τ, G, S6, q⟩ => exact ⟨_, _, S6.unsuite ok, q⟩
        | .ret u, ⟨v, τ, G, S6, r, q⟩ => exact ⟨_, _, _, S6.unsuite ok, r, q⟩
      | @yes n i hi hl =>
        refine codeAny_handlers_suite_as (lands_againZ fl fun g4 fl4 u4 => ?_)
        have J4 : Inv X pins σ' H' { s' with heap := g4 } := J.landed nb fl4.1 (up.trans u4) os ag
        obtain ⟨o4, v4, e4, z4, d4⟩ := fl4.there
        obtain ⟨l4, f4⟩ := off fl4 e4 d4
        have S4 := J4.suite e4 d4 na l4 f4
        refine store_ok (X := X.suite a ((a, o4) :: (X.pn ++ pins))) (v := .ref a) S4 nd hi (.inl hl) rfl (fun t5 S5 => ?_) (.inr hl)
        refine wpAny_mono ((hsu a o4 cls d (X.pn ++ pins) z4 ⟨_, d4⟩).run [] t5 _ H' _ S5 (hyes a na J.len)) (fun f t6 q6 => ?_) fun _ _ z => z.elim
        have out : ∀ {τ : L2.St} {G : Hp} {R : Shared → Prop}, Inv (X.suite a ((a, o4) :: (X.pn ++ pins))) [] τ G t6 → (∀ t7, Inv X pins (τ.set i none) G t7 → R t7) →
            wpAny (model X.prog X.w) X.A (do bindName X.env n .none; unbindBehindTheSuite X.env n pos') (fun _ t7 => R t7) X.xe t6 := fun S6 k => gone_ok (S6.unsuite ok) nd hi hl k
        match f, q6 with
        | .next, ⟨τ, G, S6, q⟩ => exact out S6 fun t7 J7 => ⟨_, _, J7, q⟩
        | .brk, ⟨τ, G, S6, q⟩ => exact out S6 fun t7 J7 => ⟨_, _, J7, q⟩
        | .cont, ⟨τ, G, S6, q⟩ => exact out S6 fun t7 J7 => ⟨_, _, J7, q⟩
        | .ret u, ⟨v, τ, G, S6, r, q⟩ => exact out S6 fun t7 J7 => ⟨_, _, _, J7, r, q⟩
    have go : ∀ {hds' : List ExceptHandler} {l' : List HC}, HGs X hds' l' → wG X.K X.N.length Wout D l' cls d σ' H' →
        wpAny (model X.prog X.w) X.A (handleBy (.ref a) X.env hds') (SP X pins D) X.xe { s' with heap := h3 } := by
      intro hds' l' hk
      induction hk with
      | nil =>
        intro w
        refine wpAny_handleBy_nil ?_
        obtain ⟨k1, k2, k3, oe, vs, T, oT, ts', he, hz, hd, h1, hr⟩ := id fl3
        unfold PySem.passOn
        refine wpAny_bind (wpAny_field he hd h1 ?_)
        rw [if_neg (show ¬ ((Value.ref T == Value.none) = true) from by simp)]
        have fin : wpAny (model X.prog X.w) X.A (setFlight (.ref a) X.env.frame) (fun _ s4 => wpAny (model X.prog X.w) X.A (throw (.ref a) : Sem Flow) (SP X pins D) X.xe s4) X.xe { s' with heap := h3 } := by
          rw [hf]
          refine HandSPX.setFlight_upZ fl3 fun h4 hh4 up4 => wpAny_throw (tk _ _ ?_)
          exact ⟨a, B, sI, pins, σ', H', cls, d, rfl, J, nb, (up.trans up3).trans up4, .inr (.inr (by rw [hs]; exact hh4)), na, os, ag, w⟩
        first
          | exact wpAny_bind (wpAny_pure (wpAny_bind fin))
          | exact wpAny_bind fin
      | @cons te on c b₀ suite pos' hds2 l2 hc ha hsu r ih =>
        intro w
        obtain ⟨b, his, hyes, hno⟩ := w
        refine wpAny_handleBy_cons (codeAny_handlers_test ?_) (by intro q; cases q)
        have LT : PySem.W.Looks (model X.prog X.w) h3 (typeOf (.ref a)) cls := fun A Q E s k q => wpAny_typeOf_ref (k _ _ he3) (by rw [hz3.1]; exact q)
        obtain ⟨ct, ci, ts⟩ := c
        dsimp only at hc his ha
        cases hc with
        | @one x cv np nm =>
          have LM := PySem.W.exm_one (M := model X.prog X.w) (J3.kIn) LT his
          have test : ∀ {Q : Value → Shared → Prop} {E : Value → Shared → Prop}, Q cv { s' with heap := h3 } → wpAny (model X.prog X.w) (X.A.mark (some (.ref a))) (eval (.Name x np) X.env) Q E { s' with heap := h3 } := fun {Q E} q => by
            obtain ⟨hg, hdbg, hm | ⟨hm, hv, hnn⟩⟩ := nm
            · exact ld_glob (X := X.suite a ((a, oe3) :: (X.pn ++ pins))) S3 hg hm q hdbg
            · exact ld_blt (X := X.suite a ((a, oe3) :: (X.pn ++ pins))) S3 hg hm hv q hnn hdbg
          refine test (LM.here ?_)
          cases b with
          | true => exact su (c := ⟨.one cv, ci, ts⟩) fl3 (up.trans up3) ha hsu (hyes rfl)
          | false => exact ih (hno rfl)
        | @two x1 x2 C1 C2 p1 p2 tp kk n1 n2 =>
          obtain ⟨hany, rfl⟩ := his
          have fl2 := fly_push (tup2 C1 C2) fl3
          have kin : X.K.In (h3.push (tup2 C1 C2)) := J3.kIn.keeps fun b o e => Heap.get?_push_of_some _ e
          have LT2 : PySem.W.Looks (model X.prog X.w) (h3.push (tup2 C1 C2)) (typeOf (.ref a)) cls := fun A Q E t k q => wpAny_typeOf_ref (k _ _ (Heap.get?_push_of_some _ he3)) (by rw [hz3.1]; exact q)
          have LM := PySem.W.exm_tup2 (M := model X.prog X.w) kin LT2 (Heap.get?_push_size h3 rfl) hany
          refine load2 (X := X) (C1 := C1) (C2 := C2) (fun {x C p Q2} hm q => ?_) (LM.here ?_)
          · have nm : Names X x (.ref C) := by
              simp only [List.mem_cons, Prod.mk.injEq, List.not_mem_nil, or_false] at hm
              rcases hm with ⟨rfl, rfl⟩ | ⟨rfl, rfl⟩ <;> assumption
            obtain ⟨hg, hd, m | ⟨m, v, w⟩⟩ := nm
            · exact ld_glob (X := X.suite a ((a, oe3) :: (X.pn ++ pins))) S3 hg m q hd
            · exact ld_blt (X := X.suite a ((a, oe3) :: (X.pn ++ pins))) S3 hg m v q w hd
          · exact su (c := ⟨.three _, ci, ts⟩) fl2 ((up.trans up3).trans (.of_keeps fun b o e => Heap.get?_push_of_some _ e)) ha hsu (hyes rfl)
        | @three x1 x2 x3 C1 C2 C3 p1 p2 p3 tp kk n1 n2 n3 =>
          obtain ⟨hany, rfl⟩ := his
          have fl2 := fly_push (tup C1 C2 C3) fl3
          have kin : X.K.In (h3.push (tup C1 C2 C3)) := J3.kIn.keeps fun b o e => Heap.get?_push_of_some _ e
          have LT2 : PySem.W.Looks (model X.prog X.w) (h3.push (tup C1 C2 C3)) (typeOf (.ref a)) cls := fun A Q E t k q => wpAny_typeOf_ref (k _ _ (Heap.get?_push_of_some _ he3)) (by rw [hz3.1]; exact q)
          have LM := PySem.W.exm_tup3 (M := model X.prog X.w) kin LT2 (Heap.get?_push_size h3 rfl) hany
          refine load3 (X := X) (C1 := C1) (C2 := C2) (C3 := C3) (fun {x C p Q2} hm q => ?_) (LM.here ?_)
          · have nm : Names X x (.ref C) := by
              simp only [List.mem_cons, Prod.mk.injEq, List.not_mem_nil, or_false] at hm
              rcases hm with ⟨rfl, rfl⟩ | ⟨rfl, rfl⟩ | ⟨rfl, rfl⟩ <;> assumption
            obtain ⟨hg, hd, m | ⟨m, v, w⟩⟩ := nm
            · exact ld_glob (X := X.suite a ((a, oe3) :: (X.pn ++ pins))) S3 hg m q hd
            · exact ld_blt (X := X.suite a ((a, oe3) :: (X.pn ++ pins))) S3 hg m v q w hd
          · exact su (c := ⟨.three _, ci, ts⟩) fl2 ((up.trans up3).trans (.of_keeps fun b o e => Heap.get?_push_of_some _ e)) ha hsu (hyes rfl)
    exact go hh w
  · match f, hsp with
    | .next, ⟨σ', H', J, q⟩ => exact wpAny_execs_nil ⟨σ', H', J.ofTry ok, q⟩
    | .brk, ⟨σ', H', J, q⟩ => exact ⟨σ', H', J.ofTry ok, q⟩
    | .cont, ⟨σ', H', J, q⟩ => exact ⟨σ', H', J.ofTry ok, q⟩
    | .ret u, ⟨v, σ', H', J, r, q⟩ => exact ⟨v, σ', H', J.ofTry ok, r, q⟩
end
/-! ### .. over trees -/
def noExc (ρ : List Sl) : List Sl := ρ.map fun s => match s with
  | .exc _ _ => .un
  | s => s
theorem noExc_get {ρ : List Sl} {i : Nat} {s : Sl} (h : (noExc ρ)[i]? = some s) : (s = .un ∧ ∃ C fs, ρ[i]? = some (.exc C fs)) ∨ (ρ[i]? = some s ∧ ∀ C fs, s ≠ .exc C fs) := by
  unfold noExc at h
  rw [List.getElem?_map] at h
  cases e : ρ[i]? with
  | none =>
    rw [e] at h
    cases h
  | some t =>
    rw [e] at h
    cases t with
    | exc C fs =>
      cases h
      exact .inl ⟨rfl, C, fs, rfl⟩
    | _ =>
      cases h
      exact .inr ⟨rfl, fun _ _ z => nomatch z⟩
theorem RelS.pin {K : PySem.W.Frag} {en : En} {W : Wd} {H : Hp} {sv : Option (Option V)} {s : Sl} {q : Option (Addr × Obj)} (n : ∀ C fs, s ≠ .exc C fs) (h : RelS K en W H sv s) : RelS K { en with pin := q } W H sv s := by
  cases s with
  | exc C fs => exact absurd rfl (n C fs)
  | un => trivial
  | sh d => exact h
  | ol xs =>
    obtain ⟨a, vs, e, k, r, w⟩ := h
    exact ⟨a, vs, e, k, r, ⟨w.f, w.e, w.m⟩⟩
  | od xs =>
    obtain ⟨a, vs, e, k, r, w⟩ := h
    exact ⟨a, vs, e, k, r, ⟨w.f, w.e, w.m⟩⟩
  | slf C xs =>
    obtain ⟨a, vs, e, k, r, w⟩ := h
    exact ⟨a, vs, e, k, r, ⟨w.f, w.e, w.m⟩⟩
theorem Rs.pin {K : PySem.W.Frag} {en : En} {W : Wd} {σ : L2.St} {H : Hp} {ρ : List Sl} {S : Sto} {q : Option (Addr × Obj)} (r : Rs K en W σ H ρ S) : Rs K { en with pin := q } W σ H (noExc ρ) S where
  ho := r.ho
  go := r.go
  len := by
    unfold noExc
    rw [List.length_map]
    exact r.len
  sl := fun i s e => by
    rcases noExc_get e with ⟨rfl, _⟩ | ⟨e1, n⟩
    · trivial
    · exact (r.sl i s e1).pin n
  dis := fun i j s t a ne e1 o1 e2 o2 q1 q2 => by
    rcases noExc_get e1 with ⟨rfl, _⟩ | ⟨e1, _⟩
    · cases o1
    · rcases noExc_get e2 with ⟨rfl, _⟩ | ⟨e2, _⟩
      · cases o2
      · exact r.dis i j s t a ne e1 o1 e2 o2 q1 q2
theorem Rs.pin0 {K : PySem.W.Frag} {en : En} {W : Wd} {σ : L2.St} {H : Hp} {ρ : List Sl} {S : Sto} {q : Option (Addr × Obj)} (e : en.pin = none) (r : Rs K en W σ H ρ S) : Rs K { en with pin := q } W σ H ρ S :=
  ⟨r.ho, r.go, r.len, (fun i s e1 => (r.sl i s e1).pin fun C fs z => by
    subst z
    obtain ⟨p, e2, _⟩ := r.sl i _ e1
    rw [e] at e2
    cases e2), r.dis⟩
abbrev Cf.hot (G : Cf) : Cf := { G with B := { G.B with hot := true, gen := false }, ax := fun _ _ => True, axt := fun _ _ _ _ _ => trivial }
structure DCl where
  cs : List Str
  i : Option Nat
  su : RS
def clIs (K : PySem.W.Frag) (C : Str) : List Str → Bool → Prop
  | [c], b => PySem.W.exmOne K (.ref (ga K C)) (.ref (ga K c)) = some b
  | cs, b => PySem.W.exmAny K (.ref (ga K C)) (cs.map fun c => .ref (ga K c)) = some true ∧ b = true
def offD (oi : Option Nat) (ρ : List Sl) : List Sl := match oi with
  | none => noExc ρ
  | some i => (noExc ρ).set i .un
def stD (oi : Option Nat) (ρ : List Sl) (C : Str) (fs : List (Str × D)) : List Sl := match oi with
  | none => ρ
  | some i => ρ.set i (.exc C fs)
abbrev endsD (oi : Option Nat) (D : DEnds) : DEnds := ⟨fun ρ S => D.nx (offD oi ρ) S, fun d ρ S => D.rt d (noExc ρ) S, fun ρ S => D.bk (offD oi ρ) S, fun ρ S => D.ct (offD oi ρ) S, noE⟩
def hand (K : PySem.W.Frag) (D : DEnds) : List DCl → XD
  | [] => D.ex
  | c :: r => fun ρ C fs S => ∃ b, clIs K C c.cs b ∧ (b = true → c.su (endsD c.i D) (stD c.i ρ C fs) S) ∧ (b = false → hand K D r ρ C fs S)
inductive CNameD (G : Cf) : Expr → List Str → Prop
  | one {x : Str} {np : Pos} (g : Glb G x) (m : G.B.mg x = some (.ref (ga G.B.K x))) (hd : (x == ("__debug__" : Str)) = false) : CNameD G (.Name x np) [x]
  | two {x1 x2 : Str} {p1 p2 tp : Pos} {kk : Nat} (g1 : Glb G x1) (m1 : G.B.mg x1 = some (.ref (ga G.B.K x1))) (d1 : (x1 == ("__debug__" : Str)) = false) (g2 : Glb G x2) (m2 : G.B.mg x2 = some (.ref (ga G.B.K x2))) (d2 : (x2 == ("__debug__" : Str)) = false) : CNameD G (.Tuple [.Name x1 p1, .Name x2 p2] kk tp) [x1, x2]
  | three {x1 x2 x3 : Str} {p1 p2 p3 tp : Pos} {kk : Nat} (g1 : Glb G x1) (m1 : G.B.mg x1 = some (.ref (ga G.B.K x1))) (d1 : (x1 == ("__debug__" : Str)) = false) (g2 : Glb G x2) (m2 : G.B.mg x2 = some (.ref (ga G.B.K x2))) (d2 : (x2 == ("__debug__" : Str)) = false)
      (g3 : Glb G x3) (m3 : G.B.mg x3 = some (.ref (ga G.B.K x3))) (d3 : (x3 == ("__debug__" : Str)) = false) : CNameD G (.Tuple [.Name x1 p1, .Name x2 p2, .Name x3 p3] kk tp) [x1, x2, x3]
inductive AsD (G : Cf) : Option Str → Option Nat → Prop
  | no : AsD G none none
  | yes {n : Str} {i : Nat} (hi : G.N[i]? = some n) (hl : G.sc.names.lookup n = some .local) : AsD G (some n) (some i)
inductive DHs (G : Cf) : List ExceptHandler → List DCl → Prop
  | nil : DHs G [] []
  | cons {te : Expr} {on : Option Str} {oi : Option Nat} {cs : List Str} {su : RS} {b₀ : Stmt} {suite : List Stmt} {pos' : Pos} {hds : List ExceptHandler} {l : List DCl} (hc : CNameD G te cs) (ha : AsD G on oi) (hs : DSs G.hot (b₀ :: suite) su) (r : DHs G hds l) :
      DHs G (.ExceptHandler (some te) on (b₀ :: suite) pos' :: hds) (⟨cs, oi, su⟩ :: l)
section
variable {G : Cf} {X : Cx} {en : En} {W W0 W1 : Wd} {σ : L2.St} {H H1 : Hp} {ρ : List Sl} {S S1 : Sto} {pins : List (Addr × Obj)} {s s1 : Shared} {pos : Pos}
theorem names_of {x : Str} {C : Addr} (f : Fits G X en) (g : Glb G x) (m : G.B.mg x = some (.ref (ga G.B.K x))) (hd : (x == ("__debug__" : Str)) = false) : Names X x (.ref (ga G.B.K x)) := ⟨gl_of f.sc g, hd, .inl (by rw [f.b.mg]; exact m)⟩
def tsD (X : Cx) (st : List Stmt) : Addr → Value → Option Addr → TS := fun a cls d De σ H => ∀ (oe : Obj) (pn : List (Addr × Obj)), Zc cls d oe → (∃ vs, oe.data = .fields vs) → tBr (X.suite a ((a, oe) :: pn)) st De σ H
theorem Fits.suite (hot : G.B.hot = false) {a : Addr} {oe : Obj} {pn : List (Addr × Obj)} (f : Fits G X en) (hf : ∃ vs : Array Value, oe.data = .fields vs) : Fits G.hot (X.suite a ((a, oe) :: pn)) { en with pin := some (a, oe) } :=
  ⟨⟨f.b.P, f.b.w, f.b.K, f.b.mg, f.b.base, ⟨f.b.rm.dp, f.b.rm.un⟩, (fun _ => f.b.gd (by simp [hot])), (fun h => Bool.noConfusion h), fun p e => by
    cases e
    exact ⟨List.mem_cons_self, hf⟩, fun h => Bool.noConfusion h⟩, f.N, f.sc, f.nd, f.fn, fun _ => PassesOwn.never, f.st, trivial⟩
theorem hs_read {hds : List ExceptHandler} {l : List DCl} (hot : G.B.hot = false) (h : DHs G hds l) (f : Fits G X en) (D : DEnds) (W0 : Wd) : ∃ l', HGs X hds l' ∧ ∀ cls d σ H C fs W ρ S, W0.Le W → XRep G.B.K W C fs cls d → Rs G.B.K en W σ H ρ S → hand G.B.K D l ρ C fs S → wG X.K X.N.length (XT G.B.K en W0 D.ex) (ends G.B.K en W0 D) l' cls d σ H := by
  induction h with
  | nil => exact ⟨[], .nil, fun cls d σ H C fs W ρ S l x r q => ⟨C, fs, W, ρ, S, x, r, l, q⟩⟩
  | @cons te on oi cs su b₀ suite pos' hds l hc ha hs r ih =>
    obtain ⟨l', h1, h2⟩ := ih
    have key : ∀ cls d σ H C fs W ρ S, W0.Le W → XRep G.B.K W C fs cls d → Rs G.B.K en W σ H ρ S → su (endsD oi D) (stD oi ρ C fs) S → ∀ a, H a = none → σ.length = X.N.length → tsD X (b₀ :: suite) a cls d (endsH oi (ends G.B.K en W0 D)) (stH oi σ a) H := by
      intro cls d σ H C fs W ρ S l0 x r q a na hl oe pn hz hf pins s I
      have r1 : Rs G.B.K { en with pin := some (a, oe) } W (stH oi σ a) H (stD oi ρ C fs) S := by
        have r0 : Rs G.B.K { en with pin := some (a, oe) } W σ H ρ S := r.pin0 (f.b.np hot)
        cases oi with
        | none => exact r0
        | some i => exact r0.set i (s := .exc C fs) rfl ⟨(a, oe), rfl, rfl, by rw [hz.1, hz.2]; exact x⟩
      have back : ∀ {W' σ' H' ρ' S'}, Rs G.B.K { en with pin := some (a, oe) } W' σ' H' ρ' S' → Rs G.B.K en W' σ' H' (noExc ρ') S' := fun r => r.pin (q := en.pin)
      have z : At G.hot (X.suite a ((a, oe) :: pn)) { en with pin := some (a, oe) } W (stH oi σ a) H (stD oi ρ C fs) S (endsD oi D).ex pins s := ⟨f.suite hot hf, takes_no, r1, I⟩
      refine thn (hs.run (D := endsD oi D) z q) fun fl s2 q2 => ?_
      match fl, q2 with
      | .next, ⟨σ', H', I', W', ρ', S', r2, l2, q3⟩ =>
        refine ⟨σ', H', I', ?_⟩
        cases oi with
        | none => exact ⟨W', _, S', back r2, l0.trans l2, q3⟩
        | some i => exact ⟨W', _, S', (back r2).set i (s := .un) rfl trivial, l0.trans l2, q3⟩
      | .brk, ⟨σ', H', I', W', ρ', S', r2, l2, q3⟩ =>
        refine ⟨σ', H', I', ?_⟩
        cases oi with
        | none => exact ⟨W', _, S', back r2, l0.trans l2, q3⟩
        | some i => exact ⟨W', _, S', (back r2).set i (s := .un) rfl trivial, l0.trans l2, q3⟩
      | .cont, ⟨σ', H', I', W', ρ', S', r2, l2, q3⟩ =>
        refine ⟨σ', H', I', ?_⟩
        cases oi with
        | none => exact ⟨W', _, S', back r2, l0.trans l2, q3⟩
        | some i => exact ⟨W', _, S', (back r2).set i (s := .un) rfl trivial, l0.trans l2, q3⟩
      | .ret u, ⟨v, σ1, H', I', r0, W', σ', ρ', d, S', r2, l2, rp, q3⟩ =>
        refine ⟨v, σ1, H', I', r0, ?_⟩
        cases oi with
        | none => exact ⟨W', σ', _, d, S', back r2, l0.trans l2, rp, q3⟩
        | some i => exact ⟨W', σ', _, d, S', back r2, l0.trans l2, rp, q3⟩
    have as : AsOk X on oi := by
      cases ha with
      | no => exact .no
      | yes hi hl => exact .yes (by rw [f.N]; exact hi) (show X.env.scope.names.lookup _ = _ by rw [f.sc]; exact hl)
    have suite_ok : ∀ (a : Addr) (oe : Obj) (cls : Value) (d : Option Addr) (pn : List (Addr × Obj)), Zc cls d oe → (∃ vs, oe.data = .fields vs) → PSs (X.suite a ((a, oe) :: pn)) (b₀ :: suite) (tsD X (b₀ :: suite) a cls d) := fun a oe cls d pn hz hf =>
      ⟨fun pins s σ H D I h => h oe pn hz hf pins s I⟩
    cases hc with
    | @one x np g m hd =>
      refine ⟨⟨.one (.ref (ga G.B.K x)), oi, tsD X (b₀ :: suite)⟩ :: l', .cons (.one (names_of (C := 0) f g m hd)) as suite_ok h1, fun cls d σ H C fs W ρ S l0 xr r ⟨b, e, q1, q2⟩ => ⟨b, ?_, fun hb a na hl => key cls d σ H C fs W ρ S l0 xr r (q1 hb) a na hl, fun hb => h2 cls d σ H C fs W ρ S l0 xr r (q2 hb)⟩⟩
      show PySem.W.exmOne X.K cls _ = some b
      rw [xr.1, f.b.K]
      exact e
    | @two x1 x2 p1 p2 tp kk g1 m1 d1 g2 m2 d2 =>
      refine ⟨⟨.three [.ref (ga G.B.K x1), .ref (ga G.B.K x2)], oi, tsD X (b₀ :: suite)⟩ :: l', .cons (.two (names_of (C := 0) f g1 m1 d1) (names_of (C := 0) f g2 m2 d2)) as suite_ok h1, fun cls d σ H C fs W ρ S l0 xr r ⟨b, e, q1, q2⟩ => ⟨b, ?_, fun hb a na hl => key cls d σ H C fs W ρ S l0 xr r (q1 hb) a na hl, fun hb => h2 cls d σ H C fs W ρ S l0 xr r (q2 hb)⟩⟩
      show PySem.W.exmAny X.K cls _ = some true ∧ b = true
      rw [xr.1, f.b.K]
      exact e
    | @three x1 x2 x3 p1 p2 p3 tp kk g1 m1 d1 g2 m2 d2 g3 m3 d3 =>
      refine ⟨⟨.three [.ref (ga G.B.K x1), .ref (ga G.B.K x2), .ref (ga G.B.K x3)], oi, tsD X (b₀ :: suite)⟩ :: l', .cons (.three (names_of (C := 0) f g1 m1 d1) (names_of (C := 0) f g2 m2 d2) (names_of (C := 0) f g3 m3 d3)) as suite_ok h1, fun cls d σ H C fs W ρ S l0 xr r ⟨b, e, q1, q2⟩ => ⟨b, ?_, fun hb a na hl => key cls d σ H C fs W ρ S l0 xr r (q1 hb) a na hl, fun hb => h2 cls d σ H C fs W ρ S l0 xr r (q2 hb)⟩⟩
      show PySem.W.exmAny X.K cls _ = some true ∧ b = true
      rw [xr.1, f.b.K]
      exact e
def dTry (K : PySem.W.Frag) (tb : RS) (cl : List DCl) : RS := fun D ρ S => tb { D with ex := hand K D cl } ρ S
theorem ds_try {body : List Stmt} {h₀ : ExceptHandler} {hds : List ExceptHandler} {cl : List DCl} {tb : RS} (hot : G.B.hot = false) (tr : G.tr = true) (hb : DSs G body tb) (hh : DHs G (h₀ :: hds) cl) : DS G (.Try body (h₀ :: hds) [] [] pos) (dTry G.B.K tb cl) := by
  refine ⟨fun {X en W σ H ρ S pins s D} z q => ?_⟩
  obtain ⟨l', h1, h2⟩ := hs_read hot hh z.hf D W
  obtain ⟨hs, hf⟩ := z.hf.st tr
  have key := ps_tryG (X := X) (pos := pos) (body := body) (Wout := XT G.B.K en W D.ex) (tb := fun WX De σ H => ∀ (pn : List (Addr × Obj)) (xe : Value → Shared → Prop), Takes (X.tr pn xe) WX → PassesOwn (model X.prog X.w) X.A X.env xe → tBr (X.tr pn xe) body De σ H) hs hf z.hf.nd z.tk
    (fun WX pn xe t1 t2 => ⟨fun pins s σ H De I h => h pn xe t1 t2 pins s I⟩) h1
  refine key.run pins s σ H _ z.I fun pn xe t1 t2 pins' s' I' => ?_
  have nle : W.Le W := .refl
  have ft : Fits G (X.tr pn xe) en := ⟨⟨z.hf.b.P, z.hf.b.w, z.hf.b.K, z.hf.b.mg, z.hf.b.base, z.hf.b.rm, z.hf.b.gd, z.hf.b.cm, (fun p e => by
    rw [z.hf.b.np hot] at e
    cases e), z.hf.b.nq⟩, z.hf.N, z.hf.sc, z.hf.nd, z.hf.fn, fun _ => t2, z.hf.st, G.axt _ _ _ _ z.hf.ax⟩
  have tk : Takes (X.tr pn xe) (XT G.B.K en W (hand G.B.K D cl)) := t1.imp fun cls d σ' H' ⟨C, fs, W', ρ', S', x, r, l, q⟩ => h2 cls d σ' H' C fs W' ρ' S' l x r q
  exact hb.run (D := { D with ex := hand G.B.K D cl }) ⟨ft, tk, z.rs, I'⟩ q
/-! ### in a suite, in a def that an error is handed to -/
variable {e : Expr} {p apos : Pos} {n x : Str}
end
end Dt

set_option Elab.async false
set_option linter.all false
set_option maxRecDepth 100000
set_option maxHeartbeats 8000000
/-! DatK: what the operators and built-ins give on trees -/
namespace Dt
open PySem PySem.Spec PyProof.Rows L2 My
/-! ### lifting -/
section
variable {B : Bs} {k : Nat} {S : Sto} {Ex : XS} {Q : QO}
theorem lift2 {f : Value → Value → Sem Value} {r : V → V → Hp → VK → Prop} {x y : O} (h : ∀ {X : Cx} {en : En}, FitsB B k X en → OpR X f r) (q : ∀ en W H x' y', Ho B.K W H S → RepO B.K en W H x x' → RepO B.K en W H y y' → r x' y' H (Nx B.K en W H Q)) : sem2 B k f x y S Ex Q :=
  fun X en W σ H ft tk ho x' y' rx ry pins s v u I rv ru => h ft pins s σ H x' y' v u _ I rv ru (q en W H x' y' ho rx ry)
theorem lift1 {f : Value → Sem Value} {r : V → Hp → VK → Prop} {x : O} (h : ∀ {X : Cx} {en : En}, FitsB B k X en → UnR X f r) (q : ∀ en W H x', Ho B.K W H S → RepO B.K en W H x x' → r x' H (Nx B.K en W H Q)) : sem1 B k f x S Ex Q :=
  fun X en W σ H ft tk ho x' rx pins s v I rv => h ft pins s σ H x' v _ I rv (q en W H x' ho rx)
theorem liftC {fv : Value} {r : List V → Hp → VK → Prop} {xs : List O} (h : ∀ {X : Cx} {en : En}, FitsB B k X en → CallR X fv r) (q : ∀ en W H xs', Ho B.K W H S → RepOs B.K en W H xs xs' → r xs' H (Nx B.K en W H Q)) : sCall B k fv [] xs [] S Ex Q :=
  fun X en W σ H ft tk ho xs' zs' rx rz pins s us ws I rv rw' => by
    have e : call fv us (([] : List Str).zip ws) = call fv us := rfl
    rw [e]
    exact h ft pins s σ H xs' us _ I rv (q en W H xs' ho rx)
theorem liftM {id : String} {r : V → List V → Hp → VK → Prop} {x : O} {xs : List O} (h : ∀ {X : Cx} {en : En}, FitsB B k X en → MtR X id r) (q : ∀ en W H x' xs', Ho B.K W H S → RepO B.K en W H x x' → RepOs B.K en W H xs xs' → r x' xs' H (Nx B.K en W H Q)) : sCall B k (.builtin id) [] (x :: xs) [] S Ex Q :=
  fun X en W σ H ft tk ho xs' zs' rx rz pins s us ws I rv rw' => by
    cases rx with
    | cons r1 r2 =>
      cases rv with
      | cons v1 v2 => exact h ft pins s σ H _ _ _ _ _ I v1 v2 (q en W H _ _ ho r1 r2)
theorem liftI {r : R2} {x y : O} (h : ∀ {X : Cx} {en : En}, FitsB B k X en → IxR X r) (q : ∀ en W H x' y', Ho B.K W H S → RepO B.K en W H x x' → RepO B.K en W H y y' → r x' y' H (Nx B.K en W H Q)) : sIx B k x y S Ex Q :=
  fun X en W σ H ft tk ho x' y' rx ry value slice pins s v u I rv ru hs => h ft value slice pins s σ H x' y' v u _ I rv ru (q en W H x' y' ho rx ry) hs
theorem liftS {r : V → Option Int → Option Int → Hp → VK → Prop} {x : O} {lo hi : Option Int} (h : ∀ {X : Cx} {en : En}, FitsB B k X en → SlR X r) (q : ∀ en W H x', Ho B.K W H S → RepO B.K en W H x x' → r x' lo hi H (Nx B.K en W H Q)) : sSl B k x lo hi S Q :=
  fun X en W σ H ft ho x' rx pins s v vl vu sl I rv hs pl pu => h ft pins s σ H x' v vl vu lo hi sl _ I rv hs pl pu (q en W H x' ho rx)
end
section
variable {K : PySem.W.Frag} {en : En} {W : Wd} {H : Hp} {S : Sto} {Q : QO} {d : D} {v : V} {ds : List D} {vs : List V}
/-! ### results -/
theorem nx (ho : Ho K W H S) (r : Rep K W d v) (q : Q (.v d) S) : Nx K en W H Q v H := ⟨W, .v d, S, ho, .refl, r, q⟩
theorem nxL (ho : Ho K W H S) (r : Reps K W ds vs) (q : Q (.v (.lst ds)) S) : ∀ p, H p = none → Nx K en W H Q (.ref p) (upd H p (.lst vs)) := fun p hp =>
  ⟨_, .v (.lst ds), S, ho.frz hp, Go.frz ho hp, .lst (.inl upd_same) (r.le (W.frz_le (ho.nF hp))), q⟩
theorem nxT (ho : Ho K W H S) (r : Reps K W ds vs) (q : Q (.v (.tup ds)) S) : ∀ p, H p = none → Nx K en W H Q (.ref p) (upd H p (.tup vs)) := fun p hp =>
  ⟨_, .v (.tup ds), S, ho.frz hp, Go.frz ho hp, .tup (SqT.of upd_same) (r.le (W.frz_le (ho.nF hp))), q⟩
/-- a new list: a value, or one of the store -/
abbrev NewL (S : Sto) (Q : QO) (ds : List D) : Prop := Q (.v (.lst ds)) S ∨ Q (.v (.ptr S.length)) (S ++ [.lst ds])
theorem nxN (ho : Ho K W H S) (r : Reps K W ds vs) (q : NewL S Q ds) : ∀ p, H p = none → Nx K en W H Q (.ref p) (upd H p (.lst vs)) := fun p hp => by
  rcases q with q | q
  · exact nxL ho r q p hp
  · have h2 : Ho K (W.cell p) (upd H p (.lst vs)) (S ++ [.lst ds]) := ho.cell hp ⟨vs, upd_same, r.le Wd.cell_le⟩
    have z : Rep K (W.cell p) (.ptr W.n) (.ref ((W.cell p).m W.n)) := .ptr (Nat.lt_succ_self _)
    rw [Wd.cell_new, ho.n] at z
    exact ⟨_, .v (.ptr S.length), _, h2, Go.cell ho hp, z, q⟩
/-! ### what is a list, a tuple -/
/-- the items of a list, read -/
def LsO (S : Sto) : O → List D → Prop
  | .v (.lst xs), ys => ys = xs
  | .v (.ptr i), ys => S[i]? = some (.lst ys)
  | .b xs, ys => ys = xs
  | _, _ => False
def TpO : O → List D → Prop
  | .v (.tup xs), ys => ys = xs
  | _, _ => False
def SqO (S : Sto) (o : O) (xs : List D) : Prop := LsO S o xs ∨ TpO o xs
theorem lsO_at {o : O} {xs : List D} (ho : Ho K W H S) (h : LsO S o xs) (r : RepO K en W H o v) : ∃ a vs, v = .ref a ∧ Rd H a (.lst vs) ∧ Reps K W xs vs := by
  cases o with
  | v d =>
    cases d with
    | lst ys =>
      obtain rfl : xs = ys := h
      obtain ⟨a, vs, e, q, r⟩ := Rep.lstI r
      exact ⟨a, vs, e, rd_le ho.fh q, r⟩
    | ptr i =>
      cases r
      obtain ⟨vs, e, r⟩ := ho.cel _ _ h
      exact ⟨_, vs, rfl, .inl e, r⟩
    | _ => exact h.elim
  | b ys =>
    obtain rfl : xs = ys := h
    obtain ⟨a, vs, e, q, r, _⟩ := r
    exact ⟨a, vs, e, .inl q, r⟩
  | _ => exact h.elim
theorem tpO_at {o : O} {xs : List D} (ho : Ho K W H S) (h : TpO o xs) (r : RepO K en W H o v) : ∃ a vs, v = .ref a ∧ SqT K H a vs ∧ Reps K W xs vs := by
  cases o with
  | v d =>
    cases d with
    | tup ys =>
      obtain rfl : xs = ys := h
      obtain ⟨a, vs, e, q, r⟩ := Rep.tupI r
      exact ⟨a, vs, e, sqT_le ho.fh q, r⟩
    | _ => exact h.elim
  | _ => exact h.elim
theorem sqO_at {o : O} {xs : List D} (ho : Ho K W H S) (h : SqO S o xs) (r : RepO K en W H o v) : ∃ a vs, v = .ref a ∧ (SqL K H a vs ∨ SqT K H a vs) ∧ Reps K W xs vs := by
  rcases h with h | h
  · obtain ⟨a, vs, e, q, r⟩ := lsO_at ho h r
    exact ⟨a, vs, e, .inl (.inl q), r⟩
  · obtain ⟨a, vs, e, q, r⟩ := tpO_at ho h r
    exact ⟨a, vs, e, .inr q, r⟩
theorem sqL {xs : List D} : SqO S (.v (.lst xs)) xs := .inl rfl
theorem sqB {xs : List D} : SqO S (.b xs) xs := .inl rfl
theorem sqP {i : Nat} {xs : List D} (h : S[i]? = some (.lst xs)) : SqO S (.v (.ptr i)) xs := .inl h
theorem sqT {xs : List D} : SqO S (.v (.tup xs)) xs := .inr rfl
/-! ### data -/
mutual
def pd : D → Option PyData
  | .non => some .none
  | .bl b => some (.bool b)
  | .int i => some (.int i)
  | .str x => some (.str x)
  | .lst xs => (pds xs).map .list
  | .tup xs => (pds xs).map .tuple
  | _ => none
def pds : List D → Option (List PyData)
  | [] => some []
  | x :: xs => match pd x, pds xs with
    | some d, some ds => some (d :: ds)
    | _, _ => none
end
mutual
theorem pd_dp (f : ∀ a o, W.F a = some o → H a = some o) : ∀ {d : D} {v : V} {p : PyData}, Rep K W d v → pd d = some p → Dp K H v p
  | _, _, _, .non, e => by cases e; exact .non
  | _, _, _, .bl b, e => by cases e; exact .bl b
  | _, _, _, .int b, e => by cases e; exact .int b
  | _, _, _, .str b, e => by cases e; exact .str b
  | _, _, _, .lst h r, e => by
    unfold pd at e
    cases q : pds _ with
    | none =>
      rw [q] at e
      cases e
    | some ds =>
      rw [q] at e
      cases e
      exact .lst (.inl (rd_le f h)) (pds_dp f r q)
  | _, _, _, .lsk h r, e => by
    unfold pd at e
    cases e
  | _, _, _, .adr h, e => by
    unfold pd at e
    cases e
  | _, _, _, .tup h r, e => by
    unfold pd at e
    cases q : pds _ with
    | none =>
      rw [q] at e
      cases e
    | some ds =>
      rw [q] at e
      cases e
      exact .tup (sqT_le f h) (pds_dp f r q)
theorem pds_dp (f : ∀ a o, W.F a = some o → H a = some o) : ∀ {ds : List D} {vs : List V} {ps : List PyData}, Reps K W ds vs → pds ds = some ps → DpAll K H vs ps
  | _, _, _, .nil, e => by
    cases e
    exact .nil
  | _, _, _, .cons (d := d) (ds := ds) h t, e => by
    unfold pds at e
    cases q : pd d with
    | none =>
      rw [q] at e
      cases e
    | some p =>
      cases q2 : pds ds with
      | none =>
        rw [q, q2] at e
        cases e
      | some ps =>
        rw [q, q2] at e
        cases e
        exact .cons (pd_dp f h q) (pds_dp f t q2)
end
/-- the data of what an expression gives -/
def PdO (S : Sto) (o : O) (p : PyData) : Prop := (∃ d, o = .v d ∧ pd d = some p) ∨ ∃ xs ps, LsO S o xs ∧ pds xs = some ps ∧ p = .list ps
theorem pdO_dp {o : O} {p : PyData} (ho : Ho K W H S) (h : PdO S o p) (r : RepO K en W H o v) : Dp K H v p := by
  rcases h with ⟨d, rfl, e⟩ | ⟨xs, ps, l, e, rfl⟩
  · exact pd_dp ho.fh r e
  · obtain ⟨a, vs, rfl, q, r⟩ := lsO_at ho l r
    exact .lst (.inl q) (pds_dp ho.fh r e)
theorem pdV {p : PyData} (h : pd d = some p) : PdO S (.v d) p := .inl ⟨d, rfl, h⟩
theorem pdP {i : Nat} {xs : List D} {ps : List PyData} (e : S[i]? = some (.lst xs)) (h : pds xs = some ps) : PdO S (.v (.ptr i)) (.list ps) := .inr ⟨xs, ps, e, h, rfl⟩
end
/-! ### ints -/
section
variable {B : Bs} {k : Nat} {S : Sto} {Ex : XS} {Q : QO} {i j : Int} {x y : Str} {b c : Bool} {a d : Nat}
theorem s_add (q : Q (.v (.int (i + j))) S) : sem2 B k (binaryOp .Add) (.v (.int i)) (.v (.int j)) S Ex Q := lift2 (fun _ => op_add) fun en W H x' y' ho rx ry => by
  cases rx
  cases ry
  exact ⟨i, j, rfl, rfl, nx ho (.int _) q⟩
theorem s_addB (q : Q (.v (.int (i + b2i b))) S) : sem2 B k (binaryOp .Add) (.v (.int i)) (.v (.bl b)) S Ex Q := lift2 (fun _ => op_add_ib) fun en W H x' y' ho rx ry => by
  cases rx
  cases ry
  exact ⟨i, b, rfl, rfl, nx ho (.int _) q⟩
theorem s_sub (q : Q (.v (.int (i - j))) S) : sem2 B k (binaryOp .Sub) (.v (.int i)) (.v (.int j)) S Ex Q := lift2 (fun _ => op_sub) fun en W H x' y' ho rx ry => by
  cases rx
  cases ry
  exact ⟨i, j, rfl, rfl, nx ho (.int _) q⟩
theorem s_mul (h : IntMulOk i j) (q : Q (.v (.int (i * j))) S) : sem2 B k (binaryOp .Mult) (.v (.int i)) (.v (.int j)) S Ex Q := lift2 (fun _ => op_mulA) fun en W H x' y' ho rx ry => by
  cases rx
  cases ry
  exact ⟨i, j, rfl, rfl, h, nx ho (.int _) q⟩
theorem s_fdiv (h : CDivW i j) (q : Q (.v (.int (i / j))) S) : sem2 B k (binaryOp .FloorDiv) (.v (.int i)) (.v (.int j)) S Ex Q := lift2 (fun _ => op_fdivW) fun en W H x' y' ho rx ry => by
  cases rx
  cases ry
  exact ⟨i, j, rfl, rfl, h, nx ho (.int _) q⟩
theorem s_mod (h : 0 < j) (q : Q (.v (.int (i % j))) S) : sem2 B k (binaryOp .Mod) (.v (.int i)) (.v (.int j)) S Ex Q := lift2 (fun _ => op_mod) fun en W H x' y' ho rx ry => by
  cases rx
  cases ry
  exact ⟨i, j, rfl, rfl, h, nx ho (.int _) q⟩
theorem s_pow (h : CPow i j) (q : Q (.v (.int (i ^ j.toNat))) S) : sem2 B k (binaryOp .Pow) (.v (.int i)) (.v (.int j)) S Ex Q := lift2 (fun _ => op_pow) fun en W H x' y' ho rx ry => by
  cases rx
  cases ry
  exact ⟨i, j, rfl, rfl, h, nx ho (.int _) q⟩
theorem s_neg (q : Q (.v (.int (-i))) S) : sem1 B k (unaryOp .USub) (.v (.int i)) S Ex Q := lift1 (fun _ => un_neg) fun en W H x' ho rx => by
  cases rx
  exact ⟨i, rfl, nx ho (.int _) q⟩
theorem s_lt (q : Q (.v (.bl (decide (i < j)))) S) : sem2 B k (compareOp .Lt) (.v (.int i)) (.v (.int j)) S Ex Q := lift2 (fun _ => op_lt) fun en W H x' y' ho rx ry => by
  cases rx
  cases ry
  exact ⟨i, j, rfl, rfl, nx ho (.bl _) q⟩
theorem s_le (q : Q (.v (.bl (decide (i ≤ j)))) S) : sem2 B k (compareOp .LtE) (.v (.int i)) (.v (.int j)) S Ex Q := lift2 (fun _ => op_le) fun en W H x' y' ho rx ry => by
  cases rx
  cases ry
  exact ⟨i, j, rfl, rfl, nx ho (.bl _) q⟩
theorem s_gt (q : Q (.v (.bl (decide (j < i)))) S) : sem2 B k (compareOp .Gt) (.v (.int i)) (.v (.int j)) S Ex Q := lift2 (fun _ => op_gt) fun en W H x' y' ho rx ry => by
  cases rx
  cases ry
  exact ⟨i, j, rfl, rfl, nx ho (.bl _) q⟩
theorem s_ge (q : Q (.v (.bl (decide (j ≤ i)))) S) : sem2 B k (compareOp .GtE) (.v (.int i)) (.v (.int j)) S Ex Q := lift2 (fun _ => op_ge) fun en W H x' y' ho rx ry => by
  cases rx
  cases ry
  exact ⟨i, j, rfl, rfl, nx ho (.bl _) q⟩
theorem s_eq (q : Q (.v (.bl (decide (i = j)))) S) : sem2 B k (compareOp .Eq) (.v (.int i)) (.v (.int j)) S Ex Q := lift2 (fun _ => op_eqI) fun en W H x' y' ho rx ry => by
  cases rx
  cases ry
  exact ⟨i, j, rfl, rfl, nx ho (.bl _) q⟩
theorem s_ne (q : Q (.v (.bl (!decide (i = j)))) S) : sem2 B k (compareOp .NotEq) (.v (.int i)) (.v (.int j)) S Ex Q := lift2 (fun _ => op_neI) fun en W H x' y' ho rx ry => by
  cases rx
  cases ry
  exact ⟨i, j, rfl, rfl, nx ho (.bl _) q⟩
theorem s_eqS (q : Q (.v (.bl (decide (x = y)))) S) : sem2 B k (compareOp .Eq) (.v (.str x)) (.v (.str y)) S Ex Q := lift2 (fun _ => op_eqS) fun en W H x' y' ho rx ry => by
  cases rx
  cases ry
  exact ⟨x, y, rfl, rfl, nx ho (.bl _) q⟩
theorem s_neS (q : Q (.v (.bl (!decide (x = y)))) S) : sem2 B k (compareOp .NotEq) (.v (.str x)) (.v (.str y)) S Ex Q := lift2 (fun _ => op_neS) fun en W H x' y' ho rx ry => by
  cases rx
  cases ry
  exact ⟨x, y, rfl, rfl, nx ho (.bl _) q⟩
theorem s_neD {o p : O} {e f : PyData} (h1 : PdO S o e) (h2 : PdO S p f) (s1 : SeqAt.shaped e = true) (s2 : SeqAt.shaped f = true) (q : Q (.v (.bl (!PyData.eqv e f))) S) : sem2 B k (compareOp .NotEq) o p S Ex Q :=
  lift2 (fun ft => op_neDK ft.K ft.units) fun en W H x' y' ho rx ry => ⟨e, f, pdO_dp ho h1 rx, pdO_dp ho h2 ry, s1, s2, nx ho (.bl _) q⟩
def isNonO : O → Bool
  | .v .non => true
  | _ => false
theorem rep_non {K : PySem.W.Frag} {en : En} {W : Wd} {H : Hp} {o : O} {v : V} (r : RepO K en W H o v) : decide (v = .non) = isNonO o := by
  cases o with
  | v d => cases r <;> simp [isNonO]
  | b xs => obtain ⟨a, vs, rfl, _⟩ := r; simp [isNonO]
  | bd xs => obtain ⟨a, vs, rfl, _⟩ := r; simp [isNonO]
  | s C xs => obtain ⟨a, vs, rfl, _⟩ := r; simp [isNonO]
theorem s_isN {o : O} (q : Q (.v (.bl (isNonO o))) S) : sem2 B k (compareOp .Is) o (.v .non) S Ex Q := lift2 (fun _ => op_isN) fun en W H x' y' ho rx ry => by
  cases ry
  rw [← rep_non rx] at q
  exact ⟨rfl, nx ho (.bl _) q⟩
theorem s_isNotN {o : O} (q : Q (.v (.bl (!isNonO o))) S) : sem2 B k (compareOp .IsNot) o (.v .non) S Ex Q := lift2 (fun _ => op_notN) fun en W H x' y' ho rx ry => by
  cases ry
  rw [← rep_non rx] at q
  exact ⟨rfl, nx ho (.bl _) q⟩
/-! ### truth -/
theorem t_bl {Q : Bool → Sto → Prop} (q : Q b S) : semB B k (.v (.bl b)) S Q := fun X en W σ H ft ho x' rx pins s v I rv => by
  cases rx
  cases rv
  exact wpAny_truthy_bool ⟨H, I, W, S, ho, .refl, q⟩
/-! ### calls -/
theorem c_int (q : Q (.v (.int i)) S) : sCall B k (.type "int") [] [.v (.int i)] [] S Ex Q := liftC (fun _ => call_int1) fun en W H xs' ho rx => by
  cases rx with
  | cons r t =>
    cases t
    cases r
    exact .inl ⟨i, rfl, nx ho (.int _) q⟩
theorem c_intB (q : Q (.v (.int (if b then 1 else 0))) S) : sCall B k (.type "int") [] [.v (.bl b)] [] S Ex Q := liftC (fun _ => call_int1) fun en W H xs' ho rx => by
  cases rx with
  | cons r t =>
    cases t
    cases r
    exact .inr ⟨b, rfl, nx ho (.int _) q⟩
theorem c_abs (q : Q (.v (.int (if i < 0 then -i else i))) S) : sCall B k (.builtin "abs") [] [.v (.int i)] [] S Ex Q := liftC (fun _ => call_abs) fun en W H xs' ho rx => by
  cases rx with
  | cons r t =>
    cases t
    cases r
    exact ⟨i, rfl, nx ho (.int _) q⟩
theorem c_max (hc : B.hot = false) (q : Q (.v (.int (if j > i then j else i))) S) : sCall B k (.builtin "max") [] [.v (.int i), .v (.int j)] [] S Ex Q := liftC (fun ft => call_max2 (ft.calm hc).1) fun en W H xs' ho rx => by
  cases rx with
  | cons r t =>
    cases t with
    | cons r2 t =>
      cases t
      cases r
      cases r2
      exact ⟨i, j, rfl, nx ho (.int _) q⟩
theorem c_min (hc : B.hot = false) (q : Q (.v (.int (if j < i then j else i))) S) : sCall B k (.builtin "min") [] [.v (.int i), .v (.int j)] [] S Ex Q := liftC (fun ft => call_min2 (ft.calm hc).1) fun en W H xs' ho rx => by
  cases rx with
  | cons r t =>
    cases t with
    | cons r2 t =>
      cases t
      cases r
      cases r2
      exact ⟨i, j, rfl, nx ho (.int _) q⟩
theorem c_divmod (h : CDivW i j) (q : Q (.v (.tup [.int (i / j), .int (i % j)])) S) : sCall B k (.builtin "divmod") [] [.v (.int i), .v (.int j)] [] S Ex Q := liftC (fun _ => call_divmodA) fun en W H xs' ho rx => by
  cases rx with
  | cons r t =>
    cases t with
    | cons r2 t =>
      cases t
      cases r
      cases r2
      exact ⟨i, j, rfl, h, nxT ho (.cons (.int _) (.cons (.int _) .nil)) q⟩
theorem c_len {o : O} {xs : List D} (h : SqO S o xs) (q : Q (.v (.int xs.length)) S) : sCall B k (.builtin "len") [] [o] [] S Ex Q := liftC (fun ft => call_lenK ft.K) fun en W H xs' ho rx => by
  cases rx with
  | cons r t =>
    cases t
    obtain ⟨a, vs, rfl, e, rr⟩ := sqO_at ho h r
    rw [← rr.len] at q
    exact ⟨a, vs, rfl, e, nx ho (.int _) q⟩
theorem c_lenS (h : x.length ≤ sizeLine) (q : Q (.v (.int x.length)) S) : sCall B k (.builtin "len") [] [.v (.str x)] [] S Ex Q := liftC (fun ft => call_len_str) fun en W H xs' ho rx => by
  cases rx with
  | cons r t =>
    cases t
    cases r
    exact ⟨x, rfl, h, nx ho (.int _) q⟩
theorem c_strI (h : i.natAbs.log2 < 1920) (q : Q (.v (.str (toString i))) S) : sCall B k (.type "str") [] [.v (.int i)] [] S Ex Q := liftC (fun ft => call_str_int) fun en W H xs' ho rx => by
  cases rx with
  | cons r t =>
    cases t
    cases r
    exact ⟨i, rfl, h, nx ho (.str _) q⟩
theorem c_list {o : O} {xs : List D} (h : SqO S o xs) (q : NewL S Q xs) : sCall B k (.type "list") [] [o] [] S Ex Q := liftC (fun ft => call_listK ft.K) fun en W H xs' ho rx => by
  cases rx with
  | cons r t =>
    cases t
    obtain ⟨a, vs, rfl, e, rr⟩ := sqO_at ho h r
    exact ⟨a, vs, rfl, e, nxN ho rr q⟩
theorem c_tuple {o : O} {xs : List D} (h : SqO S o xs) (q : Q (.v (.tup xs)) S) : sCall B k (.type "tuple") [] [o] [] S Ex Q := liftC (fun ft => call_tupleK ft.K) fun en W H xs' ho rx => by
  cases rx with
  | cons r t =>
    cases t
    rcases h with h | h
    · obtain ⟨a, vs, rfl, e, rr⟩ := lsO_at ho h r
      exact ⟨a, vs, rfl, .inl ⟨.inl e, nxT ho rr q⟩⟩
    · obtain ⟨a, vs, rfl, e, rr⟩ := tpO_at ho h r
      cases o with
      | v d =>
        cases d with
        | tup ys =>
          obtain rfl : xs = ys := h
          exact ⟨a, vs, rfl, .inr ⟨e, nx ho r q⟩⟩
        | _ => exact h.elim
      | _ => exact h.elim
/-! ### subscripts -/
theorem Reps.atI {K : PySem.W.Frag} {W : Wd} {ds : List D} {vs : List V} {d : D} (r : Reps K W ds vs) (h : atI ds i = some d) : ∃ v, L2.atI vs i = some v ∧ Rep K W d v := by
  unfold L2.atI at h ⊢
  rw [r.len]
  cases e : ixN ds.length i with
  | none =>
    rw [e] at h
    cases h
  | some j =>
    rw [e] at h
    obtain ⟨v, e2, rv⟩ := r.at (show ds[j]? = some d from h)
    exact ⟨v, e2, rv⟩
theorem s_ixL {o : O} {xs : List D} {d : D} (h : LsO S o xs) (e : L2.atI xs i = some d) (q : Q (.v d) S) : sIx B k o (.v (.int i)) S Ex Q := liftI (fun ft => ix_listK ft.K) fun en W H x' y' ho rx ry => by
  cases ry
  obtain ⟨a, vs, rfl, e1, rr⟩ := lsO_at ho h rx
  obtain ⟨v, e2, rv⟩ := rr.atI e
  exact ⟨a, vs, i, v, rfl, rfl, .inl e1, e2, nx ho rv q⟩
theorem s_ixT {xs : List D} {d : D} (e : L2.atI xs i = some d) (q : Q (.v d) S) : sIx B k (.v (.tup xs)) (.v (.int i)) S Ex Q := liftI (fun ft => ix_tupK ft.K) fun en W H x' y' ho rx ry => by
  cases ry
  obtain ⟨a, vs, rfl, e1, rr⟩ := Rep.tupI rx
  obtain ⟨v, e2, rv⟩ := rr.atI e
  exact ⟨a, vs, i, v, rfl, rfl, sqT_le ho.fh e1, e2, nx ho rv q⟩
theorem s_ixS {c : Nat} (h : x.length ≤ sizeLine) (e : L2.atI x.cps.toList i = some c) (q : Q (.v (.str ⟨#[c]⟩)) S) : sIx B k (.v (.str x)) (.v (.int i)) S Ex Q := liftI (fun ft => ix_str) fun en W H x' y' ho rx ry => by
  cases rx
  cases ry
  exact ⟨x, i, c, rfl, rfl, h, e, nx ho (.str _) q⟩
/-! ### slices -/
def cutD (xs : List D) (lo hi : Option Int) : List D := (xs.drop (HT.sIx xs.length 0 lo)).take (HT.sIx xs.length xs.length hi - HT.sIx xs.length 0 lo)
theorem Reps.cut {K : PySem.W.Frag} {W : Wd} {ds : List D} {vs : List V} (r : Reps K W ds vs) (lo hi : Option Int) : Reps K W (cutD ds lo hi) (L2.cutV vs lo hi) := by
  unfold cutD L2.cutV
  rw [r.len]
  exact (r.drop _).take _
theorem s_slL {o : O} {xs : List D} {lo hi : Option Int} (h : LsO S o xs) (q : NewL S Q (cutD xs lo hi)) : sSl B k o lo hi S Q := liftS (fun ft => sl_listK ft.K) fun en W H x' ho rx => by
  obtain ⟨a, vs, rfl, e1, rr⟩ := lsO_at ho h rx
  exact ⟨a, vs, rfl, .inl e1, nxN ho (rr.cut lo hi) q⟩
theorem s_slS {lo hi : Option Int} (h : x.length ≤ sizeLine) (q : Q (.v (.str (L2.cutS x lo hi))) S) : sSl B k (.v (.str x)) lo hi S Q := liftS (fun ft => sl_str) fun en W H x' ho rx => by
  cases rx
  exact ⟨x, rfl, h, nx ho (.str _) q⟩
/-! ### lists and tuples put together -/
def rCatQ : R2 := fun x y H Q => ∃ l b xs zs, x = .ref l ∧ y = .ref b ∧ Rd H l (.lst xs) ∧ Rd H b (.lst zs) ∧ xs.length + zs.length ≤ sizeLine ∧ ∀ p, H p = none → Q (.ref p) (upd H p (.lst (xs ++ zs)))
theorem lstR {X : Cx} {pins : List (Addr × Obj)} {σ : L2.St} {H : Hp} {s : Shared} {l : Addr} {xs : List V} (I : Inv X pins σ H s) (hH : Rd H l (.lst xs)) : xs.length ≤ sizeLine ∧ ∃ (its : List Value) (n : Nat), Vals xs its ∧ xs.length = its.length ∧ s.heap.get? l = some { cls := .type "list", data := .seq its.toArray n } := by
  obtain ⟨z, its, n, r, e⟩ := hH.ok I.hok
  exact ⟨z, its, n, r, r.length, e⟩
theorem op_catQ {X : Cx} : OpR X (binaryOp .Add) rCatQ := by
  intro pins s σ H x y v u Q I rx ry h
  obtain ⟨l, b, xs, zs, rfl, rfl, hH, hB, hz, q⟩ := h
  cases rx
  cases ry
  obtain ⟨z, its, n, r, hl, e⟩ := lstR I hH
  obtain ⟨z2, its2, n2, r2, hl2, e2⟩ := lstR I hB
  refine PySem.P.add_list e e2 ?_ (by rw [List.size_toArray, List.size_toArray]; omega)
  have ea : its.toArray ++ its2.toArray = (its ++ its2).toArray := by simp
  rw [ea]
  exact ⟨.ref _, _, I.lnew (t' := s.toks) (r.append r2) (by rw [List.length_append]; omega), rfl, q _ I.fresh⟩
theorem s_cat {o p : O} {xs ys : List D} (h1 : LsO S o xs) (h2 : LsO S p ys) (h3 : xs.length + ys.length ≤ sizeLine) (q : NewL S Q (xs ++ ys)) : sem2 B k (binaryOp .Add) o p S Ex Q := lift2 (fun ft => op_catQ) fun en W H x' y' ho rx ry => by
  obtain ⟨a, vs, rfl, e1, rr⟩ := lsO_at ho h1 rx
  obtain ⟨b, us, rfl, e2, rr2⟩ := lsO_at ho h2 ry
  exact ⟨a, b, vs, us, rfl, rfl, e1, e2, by rw [rr.len, rr2.len]; exact h3, nxN ho (rr.app rr2) q⟩
def rRepQ : R2 := fun x y H Q => ∃ l k xs, x = .ref l ∧ y = .int k ∧ Rd H l (.lst xs) ∧ -(2 ^ 63) ≤ k ∧ k < 2 ^ 63 ∧ xs.length * k.toNat ≤ sizeLine ∧
  ∀ p, H p = none → Q (.ref p) (upd H p (.lst (List.replicate k.toNat xs).flatten))

end
end Dt

set_option Elab.async false
set_option linter.all false
set_option maxRecDepth 100000
set_option maxHeartbeats 8000000
/-! DatL: more of what operators, methods and built-ins give on trees -/
namespace Dt
open PySem PySem.Spec PyProof.Rows L2 My
section
variable {B : Bs} {k : Nat} {S : Sto} {Ex : XS} {Q : QO} {i j : Int} {x y : Str} {b c : Bool} {a d : Nat}
theorem op_repQ {X : Cx} : OpR X (binaryOp .Mult) rRepQ := by
  intro pins s σ H x y v u Q I rx ry h
  obtain ⟨l, k, xs, rfl, rfl, hH, h1, h2, hz, q⟩ := h
  cases rx
  obtain ⟨t, rfl⟩ := ry
  obtain ⟨z, its, n, r, hl, e⟩ := lstR I hH
  have hlen : its.toArray.size * k.toNat ≤ sizeLine := by rw [List.size_toArray, ← hl]; exact hz
  have hcap : ¬ its.toArray.size * k.toNat > (2 ^ 63 - 1) / 8 := by
    have : (sizeLine : Nat) ≤ (2 ^ 63 - 1) / 8 := by decide
    omega
  have hfit : ¬ (!Builtin.List.listFitsIndex k) = true := by
    rw [fitsIndex_both h1 h2]
    exact Bool.false_ne_true
  have hlong : ¬ Builtin.List.listTooLong (its.toArray.size * k.toNat) = true := by
    rw [notLongL hlen]
    exact Bool.false_ne_true
  have hnew : List.foldl (fun x1 x2 => x1 ++ x2) #[] (List.replicate (if its.toArray.isEmpty = true then 0 else k.toNat) its.toArray) = (List.replicate k.toNat its).flatten.toArray := by
    have f0 : ∀ m : Nat, List.foldl (fun x1 x2 => x1 ++ x2) #[] (List.replicate m its.toArray) = (List.replicate m its).flatten.toArray := fun m => by
      have := foldl_rep its m []
      rw [List.nil_append] at this
      exact this
    rw [f0]
    cases its with
    | nil => simp
    | cons a r' => rw [if_neg (by simp)]
  refine wpAny_binaryOp_repeat_ref (T := "list") (U := "int") (by decide) ⟨_, e, rfl⟩ (fun s' => typeIs_int s' k t) noFill_list_mul F.fills_int_mul F.slot_int_rmul repeat_list F.slot_int_index.lookup
    (call_meets F.slot_int_rmul (typeIs_int s k t) F.entry_int_rmul (F.args_int_rmul_2 _ _) (int___rmul___int_list k t l its.toArray n)
      ⟨e, rfl, ⟨_, e, rfl⟩, call_meets F.slot_list_mul ⟨_, e, rfl⟩ F.entry_list_mul (F.args_list_mul_2 _ _) (AutoListH.list___mul___list_int_3 l its.toArray n k t hfit hcap hlong) ⟨e, ?_⟩⟩)
  rw [hnew]
  exact ⟨.ref _, _, I.lnew (t' := s.toks) (r.rep k.toNat) (by rw [PyProof.Rows.lm_len_rep_flat, Nat.mul_comm]; exact hz), rfl, q _ I.fresh⟩
theorem Reps.rep {K : PySem.W.Frag} {W : Wd} {ds : List D} {vs : List V} (r : Reps K W ds vs) : ∀ n : Nat, Reps K W (List.replicate n ds).flatten (List.replicate n vs).flatten
  | 0 => .nil
  | n + 1 => by
    rw [List.replicate_succ, List.replicate_succ, List.flatten_cons, List.flatten_cons]
    exact r.app (Reps.rep r n)
theorem s_rep {o : O} {xs : List D} (h1 : LsO S o xs) (h2 : -(2 ^ 63) ≤ i) (h3 : i < 2 ^ 63) (h4 : xs.length * i.toNat ≤ sizeLine) (q : NewL S Q (List.replicate i.toNat xs).flatten) : sem2 B k (binaryOp .Mult) o (.v (.int i)) S Ex Q := lift2 (fun ft => op_repQ) fun en W H x' y' ho rx ry => by
  cases ry
  obtain ⟨a, vs, rfl, e1, rr⟩ := lsO_at ho h1 rx
  exact ⟨a, i, vs, rfl, rfl, e1, h2, h3, by rw [rr.len]; exact h4, nxN ho (rr.rep _) q⟩
theorem s_catT {xs ys : List D} (h3 : xs.length + ys.length ≤ sizeLine) (q : Q (.v (.tup (xs ++ ys))) S) : sem2 B k (binaryOp .Add) (.v (.tup xs)) (.v (.tup ys)) S Ex Q := lift2 (r := rCatA B.K) (fun {X en} ft => by
  have z := op_catA (X := X)
  rw [ft.K] at z
  exact z) fun en W H x' y' ho rx ry => by
  obtain ⟨a, vs, rfl, e1, rr⟩ := Rep.tupI rx
  obtain ⟨b, us, rfl, e2, rr2⟩ := Rep.tupI ry
  refine ⟨a, b, vs, us, rfl, rfl, sqT_le ho.fh e1, sqT_le ho.fh e2, by rw [rr.len, rr2.len]; exact h3, fun e => ?_, fun _ e => ?_, fun _ _ => nxT ho (rr.app rr2) q⟩
  · subst e
    cases rr
    exact nx ho ry q
  · subst e
    cases rr2
    rw [List.append_nil] at q
    exact nx ho rx q
theorem s_catS (h : x.length + y.length ≤ sizeLine) (q : Q (.v (.str (x ++ y))) S) : sem2 B k (binaryOp .Add) (.v (.str x)) (.v (.str y)) S Ex Q := lift2 (fun ft => op_add_str) fun en W H x' y' ho rx ry => by
  cases rx
  cases ry
  exact ⟨x, y, rfl, rfl, h, nx ho (.str _) q⟩
/-! ### in -/
theorem s_inD {o p : O} {e : PyData} {es : List PyData} (h1 : PdO S o e) (h2 : PdO S p (.list es)) (s1 : SeqAt.shaped e = true) (s2 : SeqAt.shaped (.list es) = true) (q : Q (.v (.bl (es.any fun z => PyData.eqv z e))) S) : sem2 B k (compareOp .In) o p S Ex Q :=
  lift2 (r := rInD B.K) (fun {X en} ft => by
    have z := op_inD (X := X) (by have := ft.rm.un; omega)
    rw [ft.K] at z
    exact z) fun en W H x' y' ho rx ry => ⟨e, es, pdO_dp ho h1 rx, pdO_dp ho h2 ry, s1, s2, nx ho (.bl _) q⟩
/-! ### the store's lists -/
theorem nxP {K : PySem.W.Frag} {en : En} {W : Wd} {H : Hp} {n : Nat} {o : HO} {c : Cell} {dd : D} {v : V} (ho : Ho K W H S) (hn : n < W.n) (r : RelC K W (upd H (W.m n) o) (W.m n) c) (rv : Rep K W dd v) (q : Q (.v dd) (S.set n c)) : Nx K en W H Q v (upd H (W.m n) o) :=
  ⟨W, .v dd, S.set n c, ho.put hn r, Go.put hn, rv, q⟩
theorem cell_lt {K : PySem.W.Frag} {W : Wd} {H : Hp} {n : Nat} {c : Cell} (ho : Ho K W H S) (e : S[n]? = some c) : n < W.n := by
  rw [ho.n]
  exact (List.getElem?_eq_some_iff.mp e).1
theorem nxPL {K : PySem.W.Frag} {en : En} {W : Wd} {H : Hp} {n : Nat} {c : Cell} {ys : List D} {us : List V} {dd : D} {v : V} (ho : Ho K W H S) (e : S[n]? = some c) (rr : Reps K W ys us) (rv : Rep K W dd v) (q : Q (.v dd) (S.set n (.lst ys))) : Nx K en W H Q v (upd H (W.m n) (.lst us)) :=
  nxP (c := .lst ys) ho (cell_lt ho e) ⟨us, upd_same, rr⟩ rv q
theorem m_append {n : Nat} {xs : List D} {dd : D} (e : S[n]? = some (.lst xs)) (h : xs.length < sizeLine) (q : Q (.v .non) (S.set n (.lst (xs ++ [dd])))) : sCall B k (.builtin "list.append") [] [.v (.ptr n), .v dd] [] S Ex Q := liftM (fun ft => mt_append) fun en W H x' xs' ho rx rxs => by
  cases rx
  cases rxs with
  | cons r t =>
    cases t
    obtain ⟨vs, e1, rr⟩ := ho.cel _ _ e
    exact ⟨_, vs, _, rfl, rfl, e1, by rw [rr.len]; exact h, nxPL ho e (rr.app (.cons r .nil)) .non q⟩
theorem Reps.erase {K : PySem.W.Frag} {W : Wd} : ∀ {ds : List D} {vs : List V} (i : Nat), Reps K W ds vs → Reps K W (ds.eraseIdx i) (vs.eraseIdx i)
  | _, _, _, .nil => .nil
  | _, _, 0, .cons _ t => t
  | _, _, i + 1, .cons r t => .cons r (Reps.erase i t)
theorem m_popAt {n l : Nat} {xs : List D} {dd : D} (e : S[n]? = some (.lst xs)) (h1 : -(2 ^ 63) ≤ i) (h2 : i < 2 ^ 63) (hl : seqIndex? i xs.length = some l) (h : xs[l]? = some dd) (q : Q (.v dd) (S.set n (.lst (xs.eraseIdx l)))) : sCall B k (.builtin "list.pop") [] [.v (.ptr n), .v (.int i)] [] S Ex Q := liftM (fun ft => mt_popAt) fun en W H x' xs' ho rx rxs => by
  cases rx
  cases rxs with
  | cons r t =>
    cases t
    cases r
    obtain ⟨vs, e1, rr⟩ := ho.cel _ _ e
    obtain ⟨v, e2, rv⟩ := rr.at h
    exact ⟨_, vs, i, l, v, rfl, rfl, e1, h1, h2, by rw [rr.len]; exact hl, e2, nxPL ho e (rr.erase l) rv q⟩
/-! ### lists of ints, of truth values -/
theorem Reps.ints {K : PySem.W.Frag} {W : Wd} : ∀ {ns : List Int} {vs : List V}, Reps K W (ns.map D.int) vs → vs = ns.map V.int
  | [], _, .nil => rfl
  | _ :: _, _, .cons h t => by
    cases h
    rw [Reps.ints t] <;> rfl
theorem Reps.bls {K : PySem.W.Frag} {W : Wd} : ∀ {ns : List Bool} {vs : List V}, Reps K W (ns.map D.bl) vs → vs = ns.map V.bl
  | [], _, .nil => rfl
  | _ :: _, _, .cons h t => by
    cases h
    rw [Reps.bls t] <;> rfl
theorem reps_ints {K : PySem.W.Frag} {W : Wd} : ∀ ns : List Int, Reps K W (ns.map D.int) (ns.map V.int)
  | [] => .nil
  | n :: ns => .cons (.int n) (reps_ints ns)
theorem c_sum {o : O} {ns : List Int} (hc : B.hot = false) (h : LsO S o (ns.map .int)) (q : Q (.v (.int ns.sum)) S) : sCall B k (.builtin "sum") [] [o] [] S Ex Q := liftC (r := rSum B.K) (fun {X en} ft => by
  have z := cr_sum (X := X) (ft.calm hc).1
  rw [ft.K] at z
  exact z) fun en W H xs' ho rx => by
  cases rx with
  | cons r t =>
    cases t
    obtain ⟨a, vs, rfl, e, rr⟩ := lsO_at ho h r
    rw [rr.ints] at e
    exact ⟨a, ns, rfl, .inl e, nx ho (.int _) q⟩
theorem c_all {o : O} {bs : List Bool} (hc : B.hot = false) (h : LsO S o (bs.map .bl)) (q : Q (.v (.bl (bs.all id))) S) : sCall B k (.builtin "all") [] [o] [] S Ex Q := liftC (r := rAll B.K) (fun {X en} ft => by
  have z := cr_all (X := X) (ft.calm hc).1
  rw [ft.K] at z
  exact z) fun en W H xs' ho rx => by
  cases rx with
  | cons r t =>
    cases t
    obtain ⟨a, vs, rfl, e, rr⟩ := lsO_at ho h r
    rw [rr.bls] at e
    exact ⟨a, bs, rfl, .inl e, nx ho (.bl _) q⟩
end
end Dt

set_option Elab.async false
set_option linter.all false
set_option maxRecDepth 100000
set_option maxHeartbeats 8000000
/-! DatM: stores by subscript, chains of comparisons, operators of own classes, staticmethods -/
namespace Dt
open PySem PySem.Spec PyProof.Rows L2 My
/-! ### o[i] = v -/
def sSet (B : Bs) (k : Nat) (o i : O) (d : D) (S : Sto) (Q : Sto → Prop) : Prop :=
  ∀ (X : Cx) (en : En) (W : Wd) (σ : L2.St) (H : Hp), FitsB B k X en → Ho B.K W H S → ∀ o' i' v', RepO B.K en W H o o' → RepO B.K en W H i i' → Rep B.K W d v' →
    ∀ (pins : List (Addr × Obj)) (s : Shared) (ov iv u : Value), Inv X pins σ H s → RelV o' ov → RelV i' iv → RelV v' u → wpAny (model X.prog X.w) X.A (setItem ov iv u) (fun _ s' => ∃ H' S', Inv X pins σ H' s' ∧ Ho B.K W H' S' ∧ Go W H W H' ∧ Q S') X.xe s
section
variable {B : Bs} {k : Nat} {S : Sto} {Q : Sto → Prop} {d : D}
theorem set_L {n l : Nat} {i : Int} {xs : List D} (e : S[n]? = some (.lst xs)) (h : ixN xs.length i = some l) (q : Q (S.set n (.lst (xs.set l d)))) : sSet B k (.v (.ptr n)) (.v (.int i)) d S Q := by
  intro X en W σ H ft ho o' i' v' ro ri rd pins s ov iv u I r1 r2 r3
  cases ro
  cases ri
  obtain ⟨vs, e1, rr⟩ := ho.cel _ _ e
  refine thn (set_list pins s σ H _ _ _ ov iv u (fun H' => ∃ S', Ho B.K W H' S' ∧ Go W H W H' ∧ Q S') I r1 r2 r3 ⟨_, vs, i, l, rfl, rfl, e1, by rw [rr.len]; exact h, ?_⟩) fun _ s' ⟨H', I', S', h1, h2, h3⟩ => ⟨H', S', I', h1, h2, h3⟩
  exact ⟨_, ho.put (c := .lst (xs.set l d)) (cell_lt ho e) ⟨_, upd_same, rr.set rd l⟩, Go.put (cell_lt ho e), q⟩
theorem set_K {n : Nat} {i : Key} {xs : List (Key × D)} (e : S[n]? = some (.dct xs)) (h : xs.length < sizeLine) (q : Q (S.set n (.dct (putKD xs i d)))) : sSet B k (.v (.ptr n)) (.v (kD i)) d S Q := by
  intro X en W σ H ft ho o' i' v' ro ri rd pins s ov iv u I r1 r2 r3
  cases ro
  obtain rfl := rep_key ri
  obtain ⟨vs, e1, rr⟩ := ho.cel _ _ e
  obtain rfl : ov = Value.ref (W.m n) := r1
  refine d_setItem (by have := ft.units; omega) I (DPut.k e1 (by rw [rr.len]; exact h)) r2 r3 fun s4 I4 => ⟨_, _, I4, ho.put (c := .dct (putKD xs i d)) (cell_lt ho e) ⟨_, upd_same, rr.put i rd⟩, Go.put (cell_lt ho e), q⟩
end
section
variable {G : Cf} {X : Cx} {en : En} {W W1 : Wd} {σ : L2.St} {H H1 : Hp} {ρ : List Sl} {S S1 : Sto} {E : XD} {pins : List (Addr × Obj)} {s s1 : Shared} {e a b c o : Expr} {es : List Expr} {t ta tb tc te to ti : RE} {tA tK : RA} {pos p apos pos' : Pos} {x m : Str}
abbrev gSub (B : Bs) (k : Nat) (ta tb : RE) : RG := fun d ρ S E Q => ta ρ S E fun x S1 => tb ρ S1 E fun y S2 => sSet B k x y d S2 fun S3 => Q ρ S3
theorem dg_sub (ha : DE G a ta) (hb : DE G b tb) (hs : ∀ (env : Env) v, assign (.Subscript a b apos) env v = (do
      let ov ← holding [v] (eval a env)
      let iv ← holding [v, ov] (eval b env)
      standAt apos
      holding [v, ov, iv] (setItem ov iv v)
      release [v, ov, iv] []) := by intro _ _; rfl) : DG G (.Subscript a b apos) [] (gSub G.B G.k ta tb) := by
  refine ⟨fun {X en W σ H ρ S E pins s Q d v u} z r rv q => ?_⟩
  rw [hs]
  refine wpAny_bind (wpAny_holding (ha.at z q fun ov s1 x' H1 W1 o1 S1 z1 g1 r1 ro q1 => ?_))
  refine wpAny_bind (wpAny_holding (hb.at z1 q1 fun iv s2 y' H2 W2 o2 S2 z2 g2 r2 ro2 q2 => ?_))
  have g12 := g1.trans g2 z2.rs.ho
  refine wpAny_bind (wpAny_standAt (wpAny_bind (wpAny_holding (thn (q2 X en W2 σ H2 z2.hf.b z2.rs.ho x' y' v (ro.go g2) ro2 (Rep.le g12.le r) pins s2 ov iv u z2.I r1 r2 rv) fun _ s3 ⟨H3, S3, I3, h3, g3, q3⟩ => ?_))))
  exact wpAny_release ⟨σ, H3, W2, ρ, S3, z2.next I3 h3 g3, ⟨g12.le, q3⟩, ⟨fun _ _ => rfl, rfl⟩, g12.trans g3 h3⟩
def dSub (B : Bs) (k : Nat) (ta tb tv : RE) : RS := fun D ρ S => tv ρ S D.ex fun v S1 => ∃ d, v = .v d ∧ ta ρ S1 D.ex fun x S2 => tb ρ S2 D.ex fun y S3 => sSet B k x y d S3 fun S4 => D.nx ρ S4
theorem ds_sub {tv : RE} (ha : DE G a ta) (hb : DE G b tb) (hv : DE G e tv) (hs : ∀ env : Env, swapsWith e (some (.Subscript a b pos')) pos.line env = pure false := by intro _; rfl) : DS G (.Assign [.Subscript a b pos'] e pos) (dSub G.B G.k ta tb tv) := by
  refine ⟨fun {X en W σ H ρ S pins s D} z q => ?_⟩
  refine wpAny_Assign_Subscript (hv.at z q fun u s1 v' H1 W1 o1 S1 z1 g1 r1 ro ⟨d, eo, q1⟩ => ha.at z1 q1 fun ov s2 x' H2 W2 o2 S2 z2 g2 r2 ro2 q2 => hb.at z2 q2 fun iv s3 y' H3 W3 o3 S3 z3 g3 r3 ro3 q3 => ?_) (hs _)
  subst eo
  refine thn (q3 X en W3 σ H3 z3.hf.b z3.rs.ho x' y' v' (ro2.go g3) ro3 (Rep.le (g2.le.trans g3.le) ro) pins s3 ov iv u z3.I r2 r3 r1) fun _ s4 ⟨H4, S4, I4, h4, g4, q4⟩ => ?_
  exact ⟨σ, H4, I4, W3, ρ, S4, z3.rs.after h4 g4, (g1.le.trans g2.le).trans g3.le, q4⟩
/-! ### a op b op c -/
theorem At.op2' {f : Value → Value → Sem Value} {v v2 : V} {o o2 : O} {Q : QO} {u u2 : Value} (z : At G X en W σ H ρ S E pins s) (r : RelV v u) (ro : RepO G.B.K en W H o v) (r2 : RelV v2 u2) (ro2 : RepO G.B.K en W H o2 v2) (q : sem2 G.B G.k f o o2 S (E ρ) Q) {P : Value → Shared → Prop}
    (k : ∀ v s1 x' H1 W1 o S1, At G X en W1 σ H1 ρ S1 E pins s1 → Go W H W1 H1 → RelV x' v → RepO G.B.K en W1 H1 o x' → Q o S1 → P v s1) : wpAny (model X.prog X.w) X.A (f u u2) P X.xe s :=
  thn (z.op2 r ro r2 ro2 q) fun v s1 ⟨x', H1, I1, r1, W1, o, S1, h1, g1, ro, q1⟩ => k v s1 x' H1 W1 o S1 (z.next I1 h1 g1) g1 r1 ro q1
abbrev tChain (B : Bs) (k : Nat) (op op' : CmpOp) (ta tb tc : RE) : RT := fun ρ S E Q => ta ρ S E fun x S1 => tb ρ S1 E fun y S2 => sem2 B k (compareOp op) x y S2 (E ρ) fun z S3 => ∃ b, z = .v (.bl b) ∧ if b = true then tc ρ S3 E fun w S4 => sem2 B k (compareOp op') y w S4 (E ρ) fun z S5 => semB B k z S5 Q else Q false S3
theorem dt_chain {op op' : CmpOp} (ha : DE G a ta) (hb : DE G b tb) (hc : DE G c tc) (hm : lastMarks [op, op'] [b, c] = false := by with_unfolding_all rfl) : DT G (.Compare a [op, op'] [b, c] pos) (tChain G.B G.k op op' ta tb tc) := by
  refine ⟨fun {X en W σ H ρ S E pins s Q} z q => ?_⟩
  refine isTrue_chain (ha.at z q fun v s1 x' H1 W1 o1 S1 z1 g1 r1 ro q1 => test_link (hb.at z1 q1 fun u s2 y' H2 W2 o2 S2 z2 g2 r2 ro2 q2 => z2.op2' r1 (ro.go g2) r2 ro2 q2 fun w s3 w' H3 W3 o3 S3 z3 g3 r3 ro3 ⟨k, eo, q3⟩ => ?_)) hm
  subst eo
  cases ro3
  obtain rfl := r3
  refine wpAny_truthy_bool ?_
  have g13 := (g1.trans g2 z2.rs.ho).trans g3 z3.rs.ho
  cases k with
  | false =>
    exact ite_ff ⟨H3, z3.I, W3, S3, z3.rs.ho, g13, q3⟩
  | true =>
    refine ite_tt (test_last (hc.at z3 q3 fun t s4 t' H4 W4 o4 S4 z4 g4 r4 ro4 q4 => z4.op2' r2 ((ro2.go g3).go g4) r4 ro4 q4 fun w5 s5 w5' H5 W5 o5 S5 z5 g5 r5 ro5 q5 => ?_))
    exact thn (semB.at z5 r5 ro5 q5) fun _ _ => tp_back ((g13.trans g4 z4.rs.ho).trans g5 z5.rs.ho)
end
/-! ### operators of own classes -/
section
variable {B : Bs} {k : Nat} {S : Sto} {Ex : XS} {Q : QO} {d e : D} {C C2 : Str} {fs gs : List (Str × D)} {f : Addr} {n : Str}
theorem takes_nox2 {X : Cx} {K : PySem.W.Frag} {W : Wd} {H : Hp} {σ : L2.St} : Takes X (XN K W H σ noX) := fun u s' ⟨a, B, sI, pins, σ, H, cls, d, e, I, nb, up, sky, na, os, ag, e2, C, fs, W, S, x, h, g, q⟩ => q.elim
/-- what an own def gives, called within a built-in -/
theorem sFun.in {ds : List D} {X : Cx} {en : En} {W : Wd} {σ : L2.St} {H : Hp} {pins : List (Addr × Obj)} {s : Shared} {A : Around} {vs : List V} {us : List Value} (h : sFun B k (.ref f) [] ds [] S noX Q) (hr : My.RG k A) (ft : FitsB B k X en) (e0 : Env0 X.prog X.w X.K X.mg X.base A X.stack s H) (ho : Ho B.K W H S) (rd : Reps B.K W ds vs) (I : Inv X pins σ H s) (rv : Vals vs us)
    {P : Value → Shared → Prop} (hP : ∀ v o u s' H' W' S', Inv X pins σ H' s' → RelV v u → Ho B.K W' H' S' → Go W H W' H' → RepO B.K en W' H' o v → Q o S' → P u s') {E2 : Value → Shared → Prop} : wpAny (model X.prog X.w) A (call (.ref f) us) P E2 s := by
  rw [ft.P, ft.w, ft.K, ft.mg, ft.base] at e0
  have KX : B.K.In s.heap := by rw [← ft.K]; exact I.kIn
  have key := h A X.stack s W H en σ vs [] us [] hr e0 KX ho rd .nil rv .nil
  rw [← ft.P, ← ft.w] at key
  refine wpAny_call (codeAny_mono key fun y s' hq => ?_)
  match y, hq with
  | .error er, hq => exact (passAt (X := X.nox) (W := XN B.K W H σ noX) takes_nox2 σ pins H s er s' (I.wish _) hq).elim
  | .ok (.ret u), hq =>
    obtain ⟨v, H', I3, rv, W', o, S', h1, g1, ro, q⟩ := I.after hq
    exact hP v o u s' H' W' S' I3 rv h1 g1 ro q
/-! other kinds -/
/-- the built-in type of what is no own object -/
def KdO (S : Sto) : O → String → Prop
  | .v .non, T => T = "NoneType"
  | .v (.bl _), T => T = "bool"
  | .v (.int _), T => T = "int"
  | .v (.str _), T => T = "str"
  | .v (.lst _), T => T = "list"
  | .v (.tup _), T => T = "tuple"
  | .v (.dct _), T => T = "dict"
  | .b _, T => T = "list"
  | .bd _, T => T = "dict"
  | .v (.ptr i), T => (T = "list" ∧ ∃ xs, S[i]? = some (.lst xs)) ∨ (T = "dict" ∧ ∃ xs, S[i]? = some (.dct xs))
  | _, _ => False
end
end Dt

set_option Elab.async false
set_option linter.all false
set_option maxRecDepth 100000
set_option maxHeartbeats 8000000
/-! DatN: dicts: displays, comprehensions, keys asked, read, stored, dropped; zip; staticmethods -/
namespace Dt
open PySem PySem.Spec PyProof.Rows L2 My
section
variable {G : Cf} {X : Cx} {en : En} {W W1 : Wd} {σ : L2.St} {H H1 : Hp} {ρ : List Sl} {S S1 : Sto} {E : XD} {pins : List (Addr × Obj)} {s s1 : Shared} {e a b c o tg : Expr} {es : List Expr} {t ta tb tc te to ti : RE} {tA tK : RA} {pos p apos : Pos} {x m : Str}
/-- a new dict: a value, or one of the store -/
abbrev NewD (S : Sto) (Q : QO) (ds : List (Key × D)) : Prop := Q (.v (.dct ds)) S ∨ Q (.v (.ptr S.length)) (S ++ [.dct ds])
abbrev dDnew : RE := fun ρ S _ Q => NewD S Q []
theorem de_dnew : DE G (.Dict [] [] pos) dDnew := by
  refine ⟨fun {X en W σ H ρ S E pins s Q} z q => ?_⟩
  refine (pe_dnewK (X := X)).run pins s σ H _ z.I fun p hp => ?_
  rcases q with q | q
  · exact ⟨_, .v (.dct []), S, z.rs.ho.frz hp, Go.frz z.rs.ho hp, .dct upd_same .nil, q⟩
  · have h2 : Ho G.B.K (W.cell p) (upd H p (.dK [])) (S ++ [.dct []]) := z.rs.ho.cell hp ⟨[], upd_same, .nil⟩
    have y : Rep G.B.K (W.cell p) (.ptr W.n) (.ref ((W.cell p).m W.n)) := .ptr (Nat.lt_succ_self _)
    rw [Wd.cell_new, z.rs.ho.n] at y
    exact ⟨_, .v (.ptr S.length), _, h2, Go.cell z.rs.ho hp, y, q⟩
/-! ### zip -/
def zipD : List D → List D → List D
  | x :: xs, y :: ys => .tup [x, y] :: zipD xs ys
  | _, _ => []
theorem zipD_len : ∀ xs ys : List D, (zipD xs ys).length = min xs.length ys.length
  | [], _ => by simp [zipD]
  | _ :: _, [] => by simp [zipD]
  | _ :: xs, _ :: ys => by
    rw [zipD, List.length_cons, zipD_len xs ys]
    simp only [List.length_cons]
    omega
theorem zipD_get : ∀ {xs ys : List D} {i : Nat} {x y : D}, xs[i]? = some x → ys[i]? = some y → (zipD xs ys)[i]? = some (.tup [x, y])
  | [], _, _, _, _, h, _ => by simp at h
  | _ :: _, [], _, _, _, _, h => by simp at h
  | _ :: xs, _ :: ys, 0, x, y, h1, h2 => by
    simp only [List.getElem?_cons_zero, Option.some.injEq] at h1 h2
    subst h1 h2
    rfl
  | _ :: xs, _ :: ys, i + 1, x, y, h1, h2 => by
    rw [zipD, List.getElem?_cons_succ]
    exact zipD_get (by simpa using h1) (by simpa using h2)
theorem Wk.zip {K : PySem.W.Frag} {a b : Addr} {xs ys : List D} {vs us : List V} (h : Rd W.F a (.lst vs)) (h2 : Rd W.F b (.lst us)) (r : Reps K W xs vs) (r2 : Reps K W ys us) : Wk K W (Itz K a b) (zipD xs ys) where
  go := fun i W' H' S' l ho hi => by
    rw [zipD_len] at hi
    have hv : i < vs.length := by rw [r.len]; omega
    have hu : i < us.length := by rw [r2.len]; omega
    exact ⟨vs, us, vs[i], us[i], .inl (rd_le ho.fh (rd_le l.f h)), .inl (rd_le ho.fh (rd_le l.f h2)), List.getElem?_eq_getElem hv, List.getElem?_eq_getElem hu⟩
  yl := fun i W' H' S' x H2 l ho hi ⟨T, x1, y1, e, hT, eH, k1, k2⟩ => by
    subst e eH
    obtain ⟨d, e1, rd⟩ := r.get (k1 vs (.inl (rd_le ho.fh (rd_le l.f h))))
    obtain ⟨d2, e2, rd2⟩ := r2.get (k2 us (.inl (rd_le ho.fh (rd_le l.f h2))))
    exact ⟨_, W'.frz T (.tup [x1, y1]), zipD_get e1 e2, ho.frz hT, Go.frz ho hT, .tup (SqT.of upd_same) (.cons ((rd.le l).le (W'.frz_le (ho.nF hT))) (.cons ((rd2.le l).le (W'.frz_le (ho.nF hT))) .nil))⟩
  st := fun i W' H' S' l ho hi => by
    rw [zipD_len] at hi
    exact ⟨vs, us, .inl (rd_le ho.fh (rd_le l.f h)), .inl (rd_le ho.fh (rd_le l.f h2)), by rw [r.len, r2.len]; omega⟩
/-! ### C.m(..), m a staticmethod -/
structure SMet (K : PySem.W.Frag) (C : Addr) (m : Str) (g : Addr) : Prop where
  rd : ClX.CRead K C (.type "type")
  at_ : ∃ p, PySem.W.findCls K (.ref C) (.type "type") m = some (.get (.builtin "staticmethod.__get__") (.ref p) .none (.ref C)) ∧ ∃ rest, PySem.W.recIn K p "staticmethod" = some (.ref g :: rest)
  kp : PySem.W.keepIn K (.ref g) = true
theorem SMet.get {C g : Addr} {pl : Sem Bool} {A : Around} {Q : Value × List Value → Shared → Prop} {E2 : Value → Shared → Prop} (k : SMet X.K C m g) (I : Inv X pins σ H s) (q : ∀ s', Inv X pins σ H s' → Q (.ref g, []) s') : wpAny (model X.prog X.w) A (getMethod (.ref C) m pl) Q E2 s := by
  obtain ⟨pp, h1, rest, h2⟩ := k.at_
  refine PySem.W.method_cls I.kIn k.rd.ga (PySem.W.cls_bind I.kIn k.rd.rd h1 ?_)
  refine wpAny_call (PySem.W.sm_get (s := { s with toks := s.toks + 1 }) I.kIn h2 (PySem.W.handed_on rfl ?_))
  exact q _ (I.tok _)
end
/-! ### dicts asked -/
section
variable {B : Bs} {k : Nat} {S : Sto} {Ex : XS} {Q : QO} {i : Key}
def DcO (S : Sto) : O → List (Key × D) → Prop
  | .v (.dct xs), ys => ys = xs
  | .v (.ptr n), ys => S[n]? = some (.dct ys)
  | .bd xs, ys => ys = xs
  | _, _ => False
theorem dcO_at {K : PySem.W.Frag} {en : En} {W : Wd} {H : Hp} {o : O} {xs : List (Key × D)} {v : V} (ho : Ho K W H S) (h : DcO S o xs) (r : RepO K en W H o v) : ∃ a vs, v = .ref a ∧ H a = some (.dK vs) ∧ RepK K W xs vs := by
  cases o with
  | v d =>
    cases d with
    | dct ys =>
      obtain rfl : xs = ys := h
      cases r with
      | dct h r => exact ⟨_, _, rfl, ho.fh _ _ h, r⟩
    | ptr n =>
      cases r
      obtain ⟨vs, e, r⟩ := ho.cel _ _ h
      exact ⟨_, vs, rfl, e, r⟩
    | _ => exact h.elim
  | bd ys =>
    obtain rfl : xs = ys := h
    obtain ⟨a, vs, e, q, r, _⟩ := r
    exact ⟨a, vs, e, q, r⟩
  | _ => exact h.elim
end
end Dt

set_option Elab.async false
set_option linter.all false
set_option maxRecDepth 100000
set_option maxHeartbeats 8000000
/-! DatO: steps -/
namespace Dt
open PySem PySem.Spec PyProof.Rows L2 My
section
variable {G : Cf} {K : PySem.W.Frag} {B : Bs} {k i j l : Nat} {ρ ρ' ρ1 ρ2 : List Sl} {S : Sto} {E ex : XD} {nx bk ct : List Sl → Sto → Prop} {rt : D → List Sl → Sto → Prop} {t u : RS} {te ta tb ti : RE} {tA : RA} {g : RG} {c : RT} {Q : QO} {d x y z : D} {C f : Str} {fs : List (Str × D)} {xs : List D}
/-! ### statements -/
theorem q_seq (h : t ⟨u ⟨nx, rt, bk, ct, ex⟩, rt, bk, ct, ex⟩ ρ S) : dSeq t u ⟨nx, rt, bk, ct, ex⟩ ρ S := ⟨ρ, .refl, h⟩
theorem q_end (h : t ⟨nx, rt, bk, ct, ex⟩ ρ S) : dEnd t ⟨nx, rt, bk, ct, ex⟩ ρ S := ⟨ρ, .refl, h⟩
theorem q_nil (h : nx ρ S) : dNil ⟨nx, rt, bk, ct, ex⟩ ρ S := h
theorem q_brk (h : bk ρ S) : dBrk ⟨nx, rt, bk, ct, ex⟩ ρ S := h
theorem q_cnt (h : ct ρ S) : dCnt ⟨nx, rt, bk, ct, ex⟩ ρ S := h
theorem q_expr (h : te ρ S ex fun _ S1 => nx ρ S1) : dExpr te ⟨nx, rt, bk, ct, ex⟩ ρ S := h
theorem q_ret (h : te ρ S ex fun o S1 => ∃ d, o = .v d ∧ rt d ρ S1) : dRet te ⟨nx, rt, bk, ct, ex⟩ ρ S := h
theorem q_retN (h : rt .non ρ S) : dRetN ⟨nx, rt, bk, ct, ex⟩ ρ S := h
theorem q_if (h : c ρ S ex fun b S1 => if b = true then t ⟨nx, rt, bk, ct, ex⟩ ρ S1 else u ⟨nx, rt, bk, ct, ex⟩ ρ S1) : dIfS c t u ⟨nx, rt, bk, ct, ex⟩ ρ S := h
theorem q_asg (h : te ρ S ex fun o S1 => ∃ d, o = .v d ∧ g d ρ S1 ex nx) : dAsg te g ⟨nx, rt, bk, ct, ex⟩ ρ S := h
theorem q_asgF {tf : RF} (h : tf ρ S ex fun xs S1 => nx (ρ.set i (.ol xs)) S1) : dAsgF i tf ⟨nx, rt, bk, ct, ex⟩ ρ S := h
theorem q_asgC {tf : RF} (h : tf ρ S ex fun xs S1 => nx (ρ.set i (.ol xs)) S1) : dAsgC i tf ⟨nx, rt, bk, ct, ex⟩ ρ S := h
theorem q_app (e : ρ[i]? = some (.ol xs)) (hz : xs.length < sizeLine) (h : te ρ S ex fun o S1 => ∃ d, o = .v d ∧ nx (ρ.set i (.ol (xs ++ [d]))) S1) : dApp i te ⟨nx, rt, bk, ct, ex⟩ ρ S := ⟨xs, e, hz, h⟩
theorem q_setI (e : ρ[i]? = some (.ol xs)) (h : te ρ S ex fun o S1 => ∃ d, o = .v d ∧ ti ρ S1 ex fun j S2 => ∃ n k, j = .v (.int n) ∧ ixN xs.length n = some k ∧ nx (ρ.set i (.ol (xs.set k d))) S2) : dSetI i ti te ⟨nx, rt, bk, ct, ex⟩ ρ S := ⟨xs, e, h⟩
theorem q_sub (h : te ρ S ex fun v S1 => ∃ d, v = .v d ∧ ta ρ S1 ex fun x S2 => tb ρ S2 ex fun y S3 => sSet B k x y d S3 fun S4 => nx ρ S4) : dSub B k ta tb te ⟨nx, rt, bk, ct, ex⟩ ρ S := h
theorem q_par (h : tA ρ S ex fun os S1 => ∃ x y, os = [.v x, .v y] ∧ nx ((ρ.set i (.sh x)).set j (.sh y)) S1) : dPar i j tA ⟨nx, rt, bk, ct, ex⟩ ρ S := h
theorem q_par3 (h : tA ρ S ex fun os S1 => ∃ x y z, os = [.v x, .v y, .v z] ∧ nx (((ρ.set i (.sh x)).set j (.sh y)).set l (.sh z)) S1) : dPar3 i j l tA ⟨nx, rt, bk, ct, ex⟩ ρ S := h
theorem q_fldS (h : te ρ S ex fun y S1 => ∃ d C fs, y = .v d ∧ ρ[i]? = some (.slf C fs) ∧ Cls K (He.ga K C) ∧ NoAttr K (He.ga K C) f ∧ fs.length < 1000 ∧ nx (ρ.set i (.slf C (putD f d fs))) S1) : dFldS i f K te ⟨nx, rt, bk, ct, ex⟩ ρ S := h
theorem f_fldS (e : ρ[i]? = some (.slf C fs)) (c : Cls K (He.ga K C)) (n : NoAttr K (He.ga K C) f) (l : fs.length < 1000) (q : nx (ρ.set i (.slf C (putD f d fs))) S) : ∃ d' C fs, O.v d = .v d' ∧ ρ[i]? = some (.slf C fs) ∧ Cls K (He.ga K C) ∧ NoAttr K (He.ga K C) f ∧ fs.length < 1000 ∧ nx (ρ.set i (.slf C (putD f d' fs))) S := ⟨d, C, fs, rfl, e, c, n, l, q⟩
theorem q_fldP (h : te ρ S ex fun y S1 => ta ρ S1 ex fun x S2 => ∃ d j C fs, y = .v d ∧ x = .v (.ptr j) ∧ S2[j]? = some (.ins C fs) ∧ Cls K (He.ga K C) ∧ NoAttr K (He.ga K C) f ∧ fs.length < 1000 ∧ nx ρ (S2.set j (.ins C (putD f d fs)))) : dFldP K f ta te ⟨nx, rt, bk, ct, ex⟩ ρ S := h
theorem q_raise {fl : List Str} (h : tA ρ S ex fun os S1 => ∃ ds, Sol os ds ∧ ds.length = fl.length ∧ ex ρ C (fl.zip ds).reverse S1) : dRaise C fl tA ⟨nx, rt, bk, ct, ex⟩ ρ S := h
theorem q_for {tI : RI} (h : tI ρ S ex fun xs S1 => Loop g t ⟨nx, rt, bk, ct, ex⟩ xs ρ S1) : dFor tI g t ⟨nx, rt, bk, ct, ex⟩ ρ S := h
theorem q_try {cl : List DCl} (h : t ⟨nx, rt, bk, ct, hand K ⟨nx, rt, bk, ct, ex⟩ cl⟩ ρ S) : dTry K t cl ⟨nx, rt, bk, ct, ex⟩ ρ S := h
/-- an own list becomes a value -/
def dFrz (i : Nat) (t : RS) : RS := fun D ρ S => ∃ xs, ρ[i]? = some (.ol xs) ∧ t D (ρ.set i (.sh (.lst xs))) S
theorem dss_frz {st : List Stmt} (i : Nat) (h : DSs G st t) : DSs G st (dFrz i t) := by
  refine ⟨fun {X en W σ H ρ S pins s D} z ⟨xs, e, q⟩ => ?_⟩
  obtain ⟨W1, r1, l1⟩ := z.rs.fz (.frz i e .refl)
  exact thn (h.run ⟨z.hf, tk_up l1 z.tk, r1, z.I⟩ q) fun _ _ => sp_back l1
theorem q_frz (e : ρ[i]? = some (.ol xs)) (h : t ⟨nx, rt, bk, ct, ex⟩ (ρ.set i (.sh (.lst xs))) S) : dFrz i t ⟨nx, rt, bk, ct, ex⟩ ρ S := ⟨xs, e, h⟩
theorem DE.imp {e : Expr} {t t' : RE} (h : DE G e t) (m : ∀ ρ S E Q, t' ρ S E Q → t ρ S E Q) : DE G e t' := ⟨fun z q => h.run z (m _ _ _ _ q)⟩
/-- a list as a value, as one of the store -/
abbrev dLstV (tA : RA) : RE := fun ρ S E Q => tA ρ S E fun os S1 => ∃ ds, Sol os ds ∧ sz ds.length ∧ Q (.v (.lst ds)) S1
abbrev dLstP (tA : RA) : RE := fun ρ S E Q => tA ρ S E fun os S1 => ∃ ds, Sol os ds ∧ sz ds.length ∧ Q (.v (.ptr S1.length)) (S1 ++ [.lst ds])
theorem DA.mono {es : List Expr} {tA : RA} (h : DA G es tA) : True := trivial
/-! ### variables, values -/
theorem v_sh (e : ρ[i]? = some (.sh d)) (q : Q (.v d) S) : dVar i ρ S E Q := .inl ⟨d, e, q⟩
theorem v_ol (e : ρ[i]? = some (.ol xs)) (q : Q (.b xs) S) : dVar i ρ S E Q := .inr (.inl ⟨xs, e, q⟩)
theorem v_slf (e : ρ[i]? = some (.slf C fs)) (q : Q (.s C fs) S) : dVar i ρ S E Q := .inr (.inr (.inr ⟨C, fs, e, q⟩))
theorem q_val {P : D → Prop} (h : P d) : ∃ d', O.v d = .v d' ∧ P d' := ⟨d, rfl, h⟩
theorem q_bl {b : Bool} {P : Bool → Prop} (h : P b) : ∃ c, O.v (.bl b) = .v (.bl c) ∧ P c := ⟨b, rfl, h⟩
theorem q_oint {n : Int} {P : Int → Prop} (h : P n) : ∃ i, O.v (.int n) = .v (.int i) ∧ P i := ⟨n, rfl, h⟩
theorem q_two {P : D → D → Prop} (h : P x y) : ∃ a b, [O.v x, O.v y] = [.v a, .v b] ∧ P a b := ⟨x, y, rfl, h⟩
theorem q_three {P : D → D → D → Prop} (h : P x y z) : ∃ a b c, [O.v x, O.v y, O.v z] = [.v a, .v b, .v c] ∧ P a b c := ⟨x, y, z, rfl, h⟩
theorem q_sol0 {P : List D → Prop} (h : P []) : ∃ ds, Sol [] ds ∧ P ds := ⟨[], rfl, h⟩
theorem q_solc {os : List O} {P : List D → Prop} (h : ∃ ds, Sol os ds ∧ P (d :: ds)) : ∃ ds, Sol (.v d :: os) ds ∧ P ds := let ⟨ds, e, q⟩ := h; ⟨d :: ds, by rw [show Sol (O.v d :: os) (d :: ds) = ((O.v d :: os) = O.v d :: ds.map O.v) from rfl, ← show os = ds.map O.v from e], q⟩
theorem sz_of {n : Nat} (h : n ≤ 1000) : sz n := by
  unfold sz
  rw [sizeLine_eq]
  omega
theorem q_gtup {n : Nat} {t : RGs} {P : List Sl → Sto → Prop} (h : xs.length = n) (q : t xs ρ S E P) : gTup n t (.tup xs) ρ S E P := ⟨xs, rfl, h, q⟩
theorem q_gcons {t : RG} {u : RGs} {P : List Sl → Sto → Prop} (q : t d ρ S E fun ρ' S' => u xs ρ' S' E P) : gCons t u (d :: xs) ρ S E P := ⟨d, xs, rfl, q⟩
theorem q_gnil {P : List Sl → Sto → Prop} (q : P ρ S) : gNil [] ρ S E P := ⟨rfl, q⟩
theorem q_gname {P : List Sl → Sto → Prop} (e : ρ.set i (.sh d) = ρ') (q : P ρ' S) : gName i d ρ S E P := by
  subst e
  exact q
theorem n_set {P : List Sl → Sto → Prop} {s : Sl} (e : ρ.set i s = ρ') (q : P ρ' S) : P (ρ.set i s) S := by
  subst e
  exact q
theorem n_set2 {P : List Sl → Sto → Prop} {s s2 : Sl} (e : (ρ.set i s).set j s2 = ρ') (q : P ρ' S) : P ((ρ.set i s).set j s2) S := by
  subst e
  exact q
theorem n_set3 {P : List Sl → Sto → Prop} {s s2 s3 : Sl} (e : ((ρ.set i s).set j s2).set l s3 = ρ') (q : P ρ' S) : P (((ρ.set i s).set j s2).set l s3) S := by
  subst e
  exact q
/-! ### loops -/
theorem loop_inv (I : Nat → List Sl → Sto → Prop) (h0 : I 0 ρ S) (hs : ∀ (i : Nat) x ρ S (Nx : List Sl → Sto → Prop), xs[i]? = some x → I i ρ S → (∀ ρ' S', I (i + 1) ρ' S' → Nx ρ' S') → g x ρ S ex fun ρ' S' => t ⟨Nx, rt, nx, Nx, ex⟩ ρ' S')
    (hd : ∀ ρ S, I xs.length ρ S → nx ρ S) : Loop g t ⟨nx, rt, bk, ct, ex⟩ xs ρ S := by
  induction xs generalizing I ρ S with
  | nil => exact hd _ _ h0
  | cons y ys ih =>
    refine hs 0 y ρ S _ rfl h0 fun ρ' S' q => ?_
    exact ih (fun i => I (i + 1)) q (fun i x ρ S Nx e q hn => hs (i + 1) x ρ S Nx (by simpa using e) q hn) fun ρ S q => hd ρ S q
theorem lc_inv {tt : RT} {R : List D → Sto → Prop} (I : Nat → List D → Sto → Prop) (h0 : I 0 [] S) (hz : ∀ i acc S, I i acc S → acc.length < sizeLine) (hs : ∀ (i : Nat) x acc S (X : QO) (Y : Sto → Prop), xs[i]? = some x → I i acc S → (∀ d S', I (i + 1) (acc ++ [d]) S' → X (.v d) S') → (∀ S', I (i + 1) acc S' → Y S') →
      g x ρ S noE fun ρ' S' => tt ρ' S' noE fun c S2 => if c = true then te ρ' S2 noE X else Y S2) (hd : ∀ acc S, I xs.length acc S → R acc S) : Lc g tt te ρ xs [] S R := by
  have key : ∀ (xs acc : List D) (S : Sto) (I : Nat → List D → Sto → Prop), I 0 acc S → (∀ i acc S, I i acc S → acc.length < sizeLine) → (∀ (i : Nat) x acc S (X : QO) (Y : Sto → Prop), xs[i]? = some x → I i acc S → (∀ d S', I (i + 1) (acc ++ [d]) S' → X (.v d) S') → (∀ S', I (i + 1) acc S' → Y S') →
      g x ρ S noE fun ρ' S' => tt ρ' S' noE fun c S2 => if c = true then te ρ' S2 noE X else Y S2) → (∀ acc S, I xs.length acc S → R acc S) → Lc g tt te ρ xs acc S R := by
    intro xs
    induction xs with
    | nil => exact fun acc S I h0 _ _ hd => hd _ _ h0
    | cons y ys ih =>
      intro acc S I h0 hz hs hd
      refine hs 0 y acc S _ _ rfl h0 (fun d S' q => ⟨d, rfl, hz _ _ _ h0, ?_⟩) fun S' q => ?_
      · exact ih _ _ (fun i => I (i + 1)) q (fun i acc S q => hz _ _ _ q) (fun i x acc S X Y e q hX hY => hs (i + 1) x acc S X Y (by simpa using e) q hX hY) fun acc S q => hd acc S q
      · exact ih _ _ (fun i => I (i + 1)) q (fun i acc S q => hz _ _ _ q) (fun i x acc S X Y e q hX hY => hs (i + 1) x acc S X Y (by simpa using e) q hX hY) fun acc S q => hd acc S q
  exact key xs [] S I h0 hz hs hd
/-- a comprehension that reads no state -/
theorem lc_pure {tt : RT} {R : List D → Sto → Prop} (p : D → Bool) (f : D → D) (hz : xs.length ≤ 1000000) (hs : ∀ x, x ∈ xs → ∀ (X : QO) (Y : Sto → Prop), (p x = true → X (.v (f x)) S) → (p x = false → Y S) →
      g x ρ S noE fun ρ' S' => tt ρ' S' noE fun c S2 => if c = true then te ρ' S2 noE X else Y S2) (hd : R ((xs.filter p).map f) S) : Lc g tt te ρ xs [] S R := by
  have key : ∀ (xs acc : List D), acc.length + xs.length ≤ 1000000 → (∀ x, x ∈ xs → ∀ (X : QO) (Y : Sto → Prop), (p x = true → X (.v (f x)) S) → (p x = false → Y S) →
      g x ρ S noE fun ρ' S' => tt ρ' S' noE fun c S2 => if c = true then te ρ' S2 noE X else Y S2) → R (acc ++ (xs.filter p).map f) S → Lc g tt te ρ xs acc S R := by
    intro xs
    induction xs with
    | nil =>
      intro acc _ _ hd
      have hd2 : R acc S := by simpa using hd
      exact hd2
    | cons y ys ih =>
      intro acc hz hs hd
      simp only [List.length_cons] at hz
      refine hs y List.mem_cons_self _ _ (fun e => ⟨f y, rfl, by rw [sizeLine_eq]; omega, ?_⟩) fun e => ?_
      · refine ih _ (by simp only [List.length_append, List.length_cons, List.length_nil]; omega) (fun x hx => hs x (List.mem_cons_of_mem _ hx)) ?_
        rw [List.filter_cons, if_pos e, List.map_cons] at hd
        rw [List.append_assoc]
        exact hd
      · refine ih _ (by omega) (fun x hx => hs x (List.mem_cons_of_mem _ hx)) ?_
        rw [List.filter_cons, if_neg (by rw [e]; exact Bool.false_ne_true)] at hd
        exact hd
  exact key xs [] (by simpa using hz) hs (by simpa using hd)
end
/-! ### isinstance -/
section
variable {B : Bs} {k : Nat} {S : Sto} {Ex : XS} {Q : QO} {C : Str} {fs : List (Str × D)} {o : O}
/-- an expression's value has the type t -/
def TyD (K : PySem.W.Frag) (S : Sto) (o : O) (t : Value) : Prop := (∃ T, KdO S o T ∧ t = .type T) ∨ ∃ C fs, IsI S o C fs ∧ InsOk K (He.ga K C) ∧ t = .ref (He.ga K C)
def ClT (K : PySem.W.Frag) : D → Value → Prop
  | .ty n, u => u = .type n
  | .cls C, u => u = .ref (He.ga K C)
  | _, _ => False
theorem tyD_at {K : PySem.W.Frag} {en : En} {W : Wd} {H : Hp} {t : Value} {v : V} (ho : Ho K W H S) (h : TyD K S o t) (r : RepO K en W H o v) : TyX K H v t := by
  have lst : ∀ {a : Addr} {vs : List V}, Rd H a (.lst vs) → TyX K H (.ref a) (.type "list") := fun {a vs} q => q.elim (fun q => .base (.lst q)) fun ⟨_, q⟩ => .base (.frz q)
  rcases h with ⟨T, h, rfl⟩ | ⟨C, fs, i, io, rfl⟩
  · cases o with
    | v d =>
      cases r with
      | non =>
        obtain rfl : T = "NoneType" := h
        exact .base .non
      | bl b =>
        obtain rfl : T = "bool" := h
        exact .base (.bl b)
      | int i =>
        obtain rfl : T = "int" := h
        exact .base (.int i)
      | str y =>
        obtain rfl : T = "str" := h
        exact .base (.str y)
      | lst q _ =>
        obtain rfl : T = "list" := h
        exact lst (rd_le ho.fh q)
      | tup q _ =>
        obtain rfl : T = "tuple" := h
        exact tyT (sqT_le ho.fh q)
      | dct q _ =>
        obtain rfl : T = "dict" := h
        exact .base (.dK (ho.fh _ _ q))
      | ptr hi =>
        rcases h with ⟨rfl, xs, q⟩ | ⟨rfl, xs, q⟩
        · obtain ⟨vs, q2, _⟩ := ho.cel _ _ q
          exact .base (.lst q2)
        · obtain ⟨vs, q2, _⟩ := ho.cel _ _ q
          exact .base (.dK q2)
      | _ => exact h.elim
    | b xs =>
      obtain rfl : T = "list" := h
      obtain ⟨a, vs, rfl, q, _⟩ := r
      exact .base (.lst q)
    | bd xs =>
      obtain rfl : T = "dict" := h
      obtain ⟨a, vs, rfl, q, _⟩ := r
      exact .base (.dK q)
    | s C fs => exact h.elim
  · obtain ⟨a, dx, vs, rfl, e, _⟩ := isI_at ho i r
    exact io.ty e
theorem c_isi {c : D} {t u : Value} {b : Bool} (h : TyD B.K S o t) (hc : ClT B.K c u) (e : PySem.W.kitOne B.K t u = some b) (q : Q (.v (.bl b)) S) : sCall B k (.builtin "isinstance") [] [o, .v c] [] S Ex Q := liftC (r := rIsi B.K) (fun {X en} ft => by
  have z := call_isi (X := X)
  rw [ft.K] at z
  exact z) fun en W H xs' ho rx => by
  cases rx with
  | cons r1 rt =>
    cases rt with
    | cons r2 rt =>
      cases rt
      cases r2 with
      | ty n =>
        obtain rfl : u = _ := hc
        exact ⟨_, _, t, _, b, rfl, .ty n, tyD_at ho h r1, e, nx ho (.bl _) q⟩
      | cls C =>
        obtain rfl : u = _ := hc
        exact ⟨_, _, t, _, b, rfl, .own _, tyD_at ho h r1, e, nx ho (.bl _) q⟩
      | _ => exact hc.elim
theorem tyK {T : String} (h : KdO S o T) : TyD B.K S o (.type T) := .inl ⟨T, h, rfl⟩
theorem tyI (h : IsI S o C fs) (i : InsOk B.K (He.ga B.K C)) : TyD B.K S o (.ref (He.ga B.K C)) := .inr ⟨C, fs, h, i, rfl⟩
end
/-! ### rules with fewer words -/
section
variable {G : Cf} {es : List Expr} {tA : RA} {pos : Pos} {x : Str} {i : Nat}
theorem dv (i : Nat) (hN : G.N[i]? = some x := by rfl) (hv : Vis G.sc x := by first | exact .inl rfl | exact .inr (.inl rfl) | exact .inr (.inr rfl)) (hd : (x == ("__debug__" : Str)) = false := by decide) (hcd : (x == ("__classdict__" : Str)) = false := by decide) : DE G (.Name x pos) (dVar i) := de_var hN hv hd hcd
theorem de_lstV (h : DA G es tA) : DE G (.List es pos) (dLstV tA) := by
  refine ⟨fun {X en W σ H ρ S E pins s Q} z q => ?_⟩
  refine wpAny_List_spliced (h.at pos z q fun us s1 vs H1 W1 os S1 z1 g1 r1 ro ⟨ds, so, hz, q1⟩ => ?_)
  subst so
  have hr := Sol.rep ro
  have hl : vs.length ≤ sizeLine := by rw [hr.len]; exact hz
  refine ⟨by rw [← r1.length]; exact hl, ?_⟩
  have hf : H1 s1.heap.objs.size = none := z1.I.hok.fresh (Nat.le_refl _)
  refine ⟨.ref s1.heap.objs.size, upd H1 s1.heap.objs.size (.lst vs), z1.I.laid (t' := s1.toks) (fun b u e => Heap.get?_push_of_some _ e) (Nat.le_refl _) ⟨hl, us, 0, r1, Heap.get?_push_size _ rfl⟩, rfl, ?_⟩
  exact ⟨_, .v (.lst ds), S1, z1.rs.ho.frz hf, g1.trans (Go.frz z1.rs.ho hf) (z1.rs.ho.frz hf), .lst (.inl upd_same) (hr.le (W1.frz_le (z1.rs.ho.nF hf))), q1⟩
theorem de_lstP (h : DA G es tA) : DE G (.List es pos) (dLstP tA) := by
  refine ⟨fun {X en W σ H ρ S E pins s Q} z q => ?_⟩
  refine wpAny_List_spliced (h.at pos z q fun us s1 vs H1 W1 os S1 z1 g1 r1 ro ⟨ds, so, hz, q1⟩ => ?_)
  subst so
  have hr := Sol.rep ro
  have hl : vs.length ≤ sizeLine := by rw [hr.len]; exact hz
  refine ⟨by rw [← r1.length]; exact hl, ?_⟩
  have hf : H1 s1.heap.objs.size = none := z1.I.hok.fresh (Nat.le_refl _)
  refine ⟨.ref s1.heap.objs.size, upd H1 s1.heap.objs.size (.lst vs), z1.I.laid (t' := s1.toks) (fun b u e => Heap.get?_push_of_some _ e) (Nat.le_refl _) ⟨hl, us, 0, r1, Heap.get?_push_size _ rfl⟩, rfl, ?_⟩
  have ho : Ho G.B.K (W1.cell s1.heap.objs.size) (upd H1 s1.heap.objs.size (.lst vs)) (S1 ++ [.lst ds]) := z1.rs.ho.cell hf ⟨vs, upd_same, hr.le Wd.cell_le⟩
  refine ⟨_, .v (.ptr S1.length), _, ho, g1.trans (Go.cell z1.rs.ho hf) ho, ?_, q1⟩
  have r : Rep G.B.K (W1.cell s1.heap.objs.size) (.ptr W1.n) (.ref ((W1.cell s1.heap.objs.size).m W1.n)) := .ptr (Nat.lt_succ_self _)
  rw [Wd.cell_new, z1.rs.ho.n] at r
  exact r
end
theorem sFun.mono {B : Bs} {k j : Nat} {fv : Value} {ks : List Str} {ds zs : List D} {S : Sto} {Ex : XS} {Q : QO} (h : sFun B k fv ks ds zs S Ex Q) (l : k ≤ j) : sFun B j fv ks ds zs S Ex Q := fun A outer s W H en σ vs ws us us' hr => h A outer s W H en σ vs ws us us' (hr.mono l)
/-- a weaker wish -/
theorem sFun.imp {B : Bs} {k : Nat} {fv : Value} {ks : List Str} {ds zs : List D} {S : Sto} {Ex : XS} {Q Q' : QO} (h : sFun B k fv ks ds zs S Ex Q) (m : ∀ o S', Q o S' → Q' o S') : sFun B k fv ks ds zs S Ex Q' := by
  intro A outer s W H en σ vs ws us us' hr e0 KX ho rd rz rv rw'
  refine codeAny_mono (h A outer s W H en σ vs ws us us' hr e0 KX ho rd rz rv rw') fun y s' q => ?_
  match y, q with
  | .error er, q => exact q
  | .ok (.ret u), ⟨v, H', a1, a2, a3, a4, a5, W', o, S', h1, g1, ro, q⟩ => exact ⟨v, H', a1, a2, a3, a4, a5, W', o, S', h1, g1, ro, m _ _ q⟩
end Dt

set_option Elab.async false
set_option linter.all false
set_option maxRecDepth 100000
set_option maxHeartbeats 8000000
/-! DatP: rules as a printer writes them; more facts as Bools -/
namespace Dt
open PySem PySem.Spec PyProof.Rows L2 My He
section
variable {G : Cf} {e a b c : Expr} {es : List Expr} {te ti ta tb tc : RE} {tA : RA} {tf : RF} {pos pos' px py pz pt p apos : Pos} {x y z : Str} {k k2 pt2 kt : Nat}
theorem dst (i : Nat) (he : DE G e te) (hi : G.N[i]? = some x := by rfl) (hx : Loc G.sc x := by first | exact .inl rfl | exact .inr rfl) (hf : Sto1 G x := by first | exact .inr rfl | exact .inl rfl) (hs : ∀ env : Env, swapsWith e (some (.Name x pos')) pos.line env = pure false := by intro _; rfl) : DS G (.Assign [.Name x pos'] e pos) (dAsg te (gName i)) := ds_set hi hx he hs hf
theorem dstF (i : Nat) (he : DF G e tf) (hi : G.N[i]? = some x := by rfl) (hx : Loc G.sc x := by first | exact .inl rfl | exact .inr rfl) (hf : Sto1 G x := by first | exact .inr rfl | exact .inl rfl) (hs : ∀ env : Env, swapsWith e (some (.Name x pos')) pos.line env = pure false := by intro _; rfl) : DS G (.Assign [.Name x pos'] e pos) (dAsgF i tf) := ds_setF hi hx he hs hf
theorem dgn (i : Nat) (hi : G.N[i]? = some x := by rfl) (hx : Loc G.sc x := by first | exact .inl rfl | exact .inr rfl) (hf : Sto1 G x := by first | exact .inr rfl | exact .inl rfl) : DG G (.Name x pos) [i] (gName i) := dg_name hi hx hf
end
abbrev bs (P : Program) (w : World) (K : PySem.W.Frag) (mg : Str → Option Value) (base : Heap) : Bs := ⟨P, w, K, mg, base, false, false⟩
section
variable {B : Bs} {x qual C : Str} {params : Arguments} {body : List Stmt} {scope : Scope} {dvs : List V} {kws : List (Str × V)} {f : Addr} {fd : FuncData} {N ps ks : List Str} {m k : Nat} {ok : List D → List D → Prop} {ar : List D → List D → List D} {t : RS} {S : Sto} {Ex : XS} {Q : QO} {ρ0 : List Sl}
theorem call_d (k : Nat) (F : FunD B.K x qual params body scope dvs kws f fd) (Sc : FnScope N ps scope) (hot : B.hot = false) (bm : BindM B fd ps 0 ks ok ar) (hd : DSs (fnCf B k N scope) body t) {ds zs : List D} (hok : ok ds zs)
    (e : startS N.length (ar ds zs) = ρ0) (hq : t ⟨fun _ S' => Q (.v .non) S', fun d _ S' => Q (.v d) S', fun _ _ => False, fun _ _ => False, fun _ => Ex⟩ ρ0 S) : sFun B (k + 1) (.ref f) ks ds zs S Ex Q := by
  subst e
  exact call_def F Sc hot bm hd hok hq
theorem call_m (k : Nat) (M : Mg B.K (He.ga B.K C) f) (F : FunD B.K x qual params body scope dvs kws f fd) (Sc : FnScope N ps scope) (hot : B.hot = false) (bm : BindM B fd ps 1 ks ok ar) (hd : DSs (fnCf B k N scope) body t) {ds zs : List D} (hok : ok ds zs)
    (e : startM C N.length (ar ds zs) = ρ0) (hq : t ⟨fun ρ S' => ∃ fs, ρ[0]? = some (.slf C fs) ∧ (Q (.v (.ins C fs)) S' ∨ Q (.v (.ptr S'.length)) (S' ++ [.ins C fs])), fun d ρ S' => d = .non ∧ ∃ fs, ρ[0]? = some (.slf C fs) ∧ (Q (.v (.ins C fs)) S' ∨ Q (.v (.ptr S'.length)) (S' ++ [.ins C fs])), fun _ _ => False, fun _ _ => False, fun _ => Ex⟩ ρ0 S) (hN : 0 < N.length := by decide) : sFun B (k + 2) (.ref (He.ga B.K C)) ks ds zs S Ex Q := by
  subst e
  exact call_mk M F Sc hot bm hd hok hq hN
end
/-! ### the store but for one object -/
structure Bt (n : Nat) (S S' : Sto) : Prop where
  at_ : ∀ i, i ≠ n → S'[i]? = S[i]?
  len : S'.length = S.length
theorem Bt.refl {n : Nat} {S : Sto} : Bt n S S := ⟨fun _ _ => rfl, rfl⟩
theorem Bt.trans {n : Nat} {S S1 S2 : Sto} (a : Bt n S S1) (b : Bt n S1 S2) : Bt n S S2 := ⟨fun i h => (b.at_ i h).trans (a.at_ i h), b.len.trans a.len⟩
theorem Bt.set {n : Nat} {S : Sto} {c : Cell} : Bt n S (S.set n c) := ⟨fun i h => List.getElem?_set_ne (Ne.symm h), List.length_set⟩
section
variable {B : Bs} {k n l : Nat} {i : Int} {S : Sto} {d : D} {xs ys : List D}
theorem set_L2 {Q : Sto → Prop} (e : S[n]? = some (.lst xs)) (h : ixN xs.length i = some l) (es : xs.set l d = ys) (q : ∀ S', S'[n]? = some (.lst ys) → Bt n S S' → Q S') : sSet B k (.v (.ptr n)) (.v (.int i)) d S Q := by
  subst es
  exact set_L e h (q _ (by rw [List.getElem?_set_self (List.getElem?_eq_some_iff.mp e).1]) .set)
end
theorem ls_p {S : Sto} {n : Nat} {xs : List D} (h : S[n]? = some (.lst xs)) : LsO S (.v (.ptr n)) xs := h
theorem ls_v {S : Sto} {xs : List D} : LsO S (.v (.lst xs)) xs := rfl
theorem ls_b {S : Sto} {xs : List D} : LsO S (.b xs) xs := rfl
theorem q_walk {o : O} {ys : List D} {P : List D → Prop} (h : Walk o ys) (q : P ys) : ∃ xs, Walk o xs ∧ P xs := ⟨ys, h, q⟩
section
variable {o : O} {A B : Prop}
theorem n_t (e : isNonO o = true) (h : A) : if isNonO o = true then A else B := by rw [if_pos e]; exact h
theorem n_f (e : isNonO o = false) (h : B) : if isNonO o = true then A else B := by rw [if_neg (by rw [e]; exact Bool.false_ne_true)]; exact h
theorem nn_t (e : isNonO o = true) (h : B) : if (!isNonO o) = true then A else B := by rw [if_neg (by rw [e]; exact Bool.false_ne_true)]; exact h
theorem nn_f (e : isNonO o = false) (h : A) : if (!isNonO o) = true then A else B := by rw [if_pos (by rw [e]; rfl)]; exact h
end
theorem q_rng1 {n : Int} {P : List D → Prop} (h1 : -(2 ^ 62) ≤ n) (h2 : n < 2 ^ 62) (q : P (rngD 0 n.toNat)) : ∃ (m : Int) (xs : List D), [O.v (.int n)] = [.v (.int m)] ∧ -(2 ^ 62) ≤ m ∧ m < 2 ^ 62 ∧ xs = rngD 0 m.toNat ∧ P xs := ⟨n, _, rfl, h1, h2, rfl, q⟩
theorem q_rng2 {i j : Int} {P : List D → Prop} (h : -(2 ^ 62) ≤ i ∧ i < 2 ^ 62 ∧ -(2 ^ 62) ≤ j ∧ j < 2 ^ 62) (q : P (rngD i (j - i).toNat)) : ∃ (a b : Int) (xs : List D), [O.v (.int i), O.v (.int j)] = [.v (.int a), .v (.int b)] ∧ (-(2 ^ 62) ≤ a ∧ a < 2 ^ 62 ∧ -(2 ^ 62) ≤ b ∧ b < 2 ^ 62) ∧ xs = rngD a (b - a).toNat ∧ P xs := ⟨i, j, _, rfl, h, rfl, q⟩
theorem rngD_at {lo : Int} {n i : Nat} {x : D} (h : (rngD lo n)[i]? = some x) : i < n ∧ x = .int (lo + (i : Nat)) := by
  have hi : i < n := by
    have := (List.getElem?_eq_some_iff.mp h).1
    rw [rngD_len] at this
    exact this
  rw [rngD_get hi] at h
  exact ⟨hi, (Option.some.inj h).symm⟩
end Dt

set_option Elab.async false
set_option linter.all false
set_option maxRecDepth 100000
set_option maxHeartbeats 8000000
/-! DatQ: ranges of integers of any size -/
namespace Dt
open PySem PySem.Spec PyProof.Rows L2 My He
section
variable {X : Cx} {tg : Expr}
end
section
variable {G : Cf} {tg a b : Expr} {tA : RA} {p pos : Pos}
end
theorem q_rngL {i j : Int} {P : List D → Prop} (q : P (rngD i (j - i).toNat)) : ∃ (a b : Int) (xs : List D), [O.v (.int i), O.v (.int j)] = [.v (.int a), .v (.int b)] ∧ xs = rngD a (b - a).toNat ∧ P xs := ⟨i, j, _, rfl, rfl, q⟩
end Dt

set_option Elab.async false
set_option linter.all false
set_option maxRecDepth 100000
set_option maxHeartbeats 8000000
/-! DatR: the script; the law's end -/
namespace Dt
open PySem PySem.Spec PyProof.Rows L2 My He
theorem Rep.lskI {K : PySem.W.Frag} {W : Wd} {xs : List D} {v : V} (h : Rep K W (.lsk xs) v) : ∃ a vs, v = .ref a ∧ SqL K W.F a vs ∧ Reps K W xs vs := by
  cases h with
  | lsk h r => exact ⟨_, _, rfl, h, r⟩
section
variable {B : Bs} {k : Nat} {S : Sto} {Ex : XS} {Q : QO} {i : Int} {xs : List D} {d : D}
theorem c_lenX (q : Q (.v (.int xs.length)) S) : sCall B k (.builtin "len") [] [.v (.lsk xs)] [] S Ex Q := liftC (fun ft => call_lenK ft.K) fun en W H xs' ho rx => by
  cases rx with
  | cons r t =>
    cases t
    obtain ⟨a, vs, rfl, e, rr⟩ := Rep.lskI r
    rw [← rr.len] at q
    exact ⟨a, vs, rfl, .inl (sqL_le ho.fh e), nx ho (.int _) q⟩
theorem s_ixX (e : L2.atI xs i = some d) (q : Q (.v d) S) : sIx B k (.v (.lsk xs)) (.v (.int i)) S Ex Q := liftI (fun ft => ix_listK ft.K) fun en W H x' y' ho rx ry => by
  cases ry
  obtain ⟨a, vs, rfl, e1, rr⟩ := Rep.lskI rx
  obtain ⟨v, e2, rv⟩ := rr.atI e
  exact ⟨a, vs, i, v, rfl, rfl, sqL_le ho.fh e1, e2, nx ho rv q⟩
theorem s_slX {lo hi : Option Int} (q : NewL S Q (cutD xs lo hi)) : sSl B k (.v (.lsk xs)) lo hi S Q := liftS (fun ft => sl_listK ft.K) fun en W H x' ho rx => by
  obtain ⟨a, vs, rfl, e1, rr⟩ := Rep.lskI rx
  exact ⟨a, vs, rfl, sqL_le ho.fh e1, nxN ho (rr.cut lo hi) q⟩
end
/-! ### the law's end -/
/-- what is asked of the def law -/
abbrev LawOk (P : Program) (w : World) (K : PySem.W.Frag) (mg : Str → Option Value) (k n : Nat) (fa : Addr) : Prop :=
  ∀ base : Heap, ∀ ns : List Int, ns.length ≤ n → sFun (bs P w K mg base) k (.ref fa) [] [.lsk (ns.map .int)] [] [] noX fun o _ => o = .v (.bl true)
theorem law_d0 {P : Program} {w : World} {K : PySem.W.Frag} {mg mb : Str → Option Value} {k n : Nat} {fa a : Addr} {t : Shared} {vs : List Value} {ns : List Int} {H : Hp}
    (KX : K.In t.heap) (hns : t.heap.Ns mainGlobals mg) (hb : t.heap.Ns builtinsNs mb) (hbb : ∀ x : Str, x ≠ "__name__" → mb x = bootBuiltins x) (hlim : t.heap.NoLimit) (hg : t.gens = #[])
    (ha : t.heap.get? a = some { cls := .type "list", data := .seq vs.toArray }) (hr : My.RG k callerA) (F : LawOk P w K mg k n fa) (hl : ns.length ≤ n) (hS : SqL K H a (ns.map V.int))
    (hO : Only H) (hok : HOk P w H t.heap) (hA : ∀ b, H b ≠ none → b = a) (hK : H a ≠ none → K.lookup a = none) :
    codeAny (model P w) callerA (.call (.ref fa) ⟨[.ref a], []⟩) (fun r s' => r = .ok (.ret (.bool true)) ∧ OldK t.heap s'.heap ∧ s'.os = t.os ∧ AllBare s'.gens) t := by
  have off : ∀ {b : Addr}, (b = a → False) → H b = none := fun {b} n => Classical.byContradiction fun q => n (hA b q)
  have kb : K.In (hidT t.heap H) := fun b o e => hidT_get (KX b o e) (Classical.byContradiction fun q => by
    have z := hA b q
    subst z
    rw [hK q] at e
    cases e)
  have nsK : ∀ {b : Addr} {m : Str → Option Value}, t.heap.Ns b m → (hidT t.heap H).Ns b m := fun {b m} ⟨o, es, ep, e, d, r⟩ => ⟨o, es, ep, hidT_get e (off fun z => by
    subst z
    rw [ha] at e
    cases e
    have d2 : Data.seq vs.toArray _ = Data.dict es ep := d
    cases d2), d, r⟩
  have hM : Mod K mg (hidT t.heap H) := ⟨kb, nsK hns, ⟨mb, nsK hb, hbb⟩, let ⟨mc, h1, h2⟩ := hlim; ⟨mc, nsK h1, h2⟩⟩
  have e0 : Env0 P w K mg (hidT t.heap H) callerA [] t H := ⟨rfl, hM, fun b o e => of_hidT e, Nat.le_of_eq (hidT_size _ _), trivial, fun b z => (List.not_mem_nil (a := b) z).elim, hok, .of_eq hg⟩
  let W : Wd := ⟨H, fun _ => 0, 0⟩
  have ho : Ho K W H [] := ⟨rfl, fun _ _ e => e, fun i j hi => absurd hi (Nat.not_lt_zero _), fun i hi => absurd hi (Nat.not_lt_zero _), fun i hi => absurd hi (Nat.not_lt_zero _), fun i c e => by simp at e⟩
  have rd : Reps K W [.lsk (ns.map .int)] [.ref a] := .cons (.lsk hS (reps_ints ns)) .nil
  refine codeAny_mono (F (hidT t.heap H) ns hl callerA [] t W H ⟨W, H, 0, none⟩ [] [.ref a] [] [.ref a] [] hr e0 KX ho rd .nil (.cons rfl .nil) .nil) fun y s' h => ?_
  match y, h with
  | .error e, h =>
    obtain ⟨_, _, _, _, _, _, _, _, _, _, _, _, hE⟩ := h
    obtain ⟨_, C, fs, W', S', _, _, _, q⟩ := hE
    exact q.elim
  | .ok (.ret u), h =>
    obtain ⟨v, H', os, bare, un, hok', r', W', o, S', _, _, ro, q⟩ := h
    subst q
    cases ro
    obtain rfl : u = Value.bool true := r'
    refine ⟨rfl, OldK.of_keep fun b o e => ?_, os, bare⟩
    cases q : H b with
    | none => exact un.keep b o e q (fun z => (List.not_mem_nil (a := b) z).elim) (by simp)
    | some u =>
      rcases hO b with z | ⟨ob, xs, z⟩
      · rw [q] at z
        cases z
      · obtain ⟨e1, _⟩ := hok b _ z
        obtain ⟨e2, _⟩ := hok' b _ (un.frzs b ob _ z)
        rw [e] at e1
        cases e1
        exact e2
theorem law_d {P : Program} {w : World} {K : PySem.W.Frag} {mg mb : Str → Option Value} {k n : Nat} {fa a : Addr} {t : Shared} {vs : List Value} {ns : List Int}
    (KX : K.In t.heap) (hns : t.heap.Ns mainGlobals mg) (hb : t.heap.Ns builtinsNs mb) (hbb : ∀ x : Str, x ≠ "__name__" → mb x = bootBuiltins x) (hlim : t.heap.NoLimit) (hg : t.gens = #[])
    (ha : t.heap.get? a = some { cls := .type "list", data := .seq vs.toArray }) (hi : IntsAre vs ns) (hn : n ≤ sizeLine) (hl : ns.length ≤ n) (hr : My.RG k callerA) (F : LawOk P w K mg k n fa) :
    codeAny (model P w) callerA (.call (.ref fa) ⟨[.ref a], []⟩) (fun r s' => r = .ok (.ret (.bool true)) ∧ OldK t.heap s'.heap ∧ s'.os = t.os ∧ AllBare s'.gens) t := by
  have rv := vals_ints hi
  have hl2 : ns.length ≤ sizeLine := Nat.le_trans hl hn
  cases hk : K.lookup a with
  | some o =>
    have e := KX a o hk
    rw [ha] at e
    cases e
    have O : Only (fun _ => none) := fun _ => .inl rfl
    exact law_d0 (ns := ns) (H := fun _ => none) KX hns hb hbb hlim hg ha hr F hl (.inr ⟨_, vs.toArray, _, hk, rfl, rfl, rfl, by rw [List.size_toArray, hi.length]; exact hl2, by simpa using rv⟩) O (fun b u z => by cases (show (none : Option HO) = some u from z)) (fun b z => absurd rfl z) fun z => absurd rfl z
  | none =>
    let ob : Obj := { cls := .type "list", data := .seq vs.toArray }
    let H : Hp := fun b => if b = a then some (.frz ob (.lst (ns.map V.int))) else none
    have Ha : H a = some (.frz ob (.lst (ns.map V.int))) := if_pos rfl
    have Hn : ∀ {b}, b ≠ a → H b = none := fun {b} z => if_neg z
    have O : Only H := fun b => by
      by_cases z : b = a
      · exact .inr ⟨_, _, if_pos z⟩
      · exact .inl (Hn z)
    refine law_d0 (H := H) (ns := ns) KX hns hb hbb hlim hg ha hr F hl (.inl (.inr ⟨ob, Ha⟩)) O (fun b u z => ?_) (fun b z => Classical.byContradiction fun n => z (Hn n)) fun _ => hk
    by_cases n : b = a
    · subst n
      rw [Ha] at z
      cases z
      exact ⟨ha, by rw [List.length_map]; exact hl2, vs, _, rv, ha⟩
    · rw [Hn n] at z
      cases z
theorem walk_d {l : PySem.W.OpenLaw} {n k : Nat} {q : Program} {loose : List Str} {XP : (Str → Option Value) → Heap → Prop} {YP : World → Heap → Prop} {d : DefRec}
    (hn : l.most = some n) (hn2 : n ≤ sizeLine) (hdf : d.params.defaults = []) (hr : My.RG k callerA)
    (F : ∀ (w : World) (mg : Str → Option Value) (fa : Addr) (h : Heap), YP w h → h.Ns mainGlobals mg → mg d.name = some (.ref fa) → ∃ K : PySem.W.Frag, K.In h ∧ LawOk l.prog w K mg k n fa) :
    PySem.W.WalkO q loose XP YP l.row.toRowW d [] (fun f vs => PySem.call f vs) := by
  refine Att.attach_call hn hdf fun w s₀ t mg mb fa o pm cd doc a vs ns G Y ho hd hcd hmg hobj hints hlen hg => ?_
  obtain ⟨K, KX, hF⟩ := F w mg fa _ Y G.T.g hmg
  exact law_d KX G.T.g G.T.b G.T.builtins G.T.nolimit hg hobj hints hn2 hlen hr hF
end Dt

set_option Elab.async false
set_option linter.all false
set_option maxRecDepth 100000
set_option maxHeartbeats 8000000
/-! DatS: bool of own objects -/
namespace Dt
open PySem PySem.Spec PyProof.Rows L2 My He
section
variable {B : Bs} {k : Nat} {f : Addr} {C : Str} {fs : List (Str × D)} {d : D} {S : Sto} {Ex : XS} {Q : QO}
end
end Dt

set_option Elab.async false
set_option linter.all false
set_option maxRecDepth 100000
set_option maxHeartbeats 8000000
/-! DatT: texts, x[::-1], star calls, calls of own instances -/
namespace Dt
open PySem PySem.Spec PyProof.Rows L2 My He SX
/-- a text by its code points -/
abbrev tx (l : List Nat) : D := .str (S l)
theorem Reps.strs {K : PySem.W.Frag} {W : Wd} : ∀ {ls : List Str} {vs : List V}, Reps K W (ls.map D.str) vs → vs = ls.map V.str
  | [], _, .nil => rfl
  | _ :: _, _, .cons h t => by
    cases h
    rw [Reps.strs t] <;> rfl
theorem reps_strs {K : PySem.W.Frag} {W : Wd} : ∀ ls : List Str, Reps K W (ls.map D.str) (ls.map V.str)
  | [] => .nil
  | x :: ls => .cons (.str x) (reps_strs ls)
section
variable {B : Bs} {k : Nat} {S0 : Sto} {Ex : XS} {Q : QO} {c : Nat} {l m : List Nat} {i : Int} {ls : List (List Nat)} {o : O}
theorem s_inT (q : Q (.v (.bl (decide (c ∈ l)))) S0) : sem2 B k (compareOp .In) (.v (tx [c])) (.v (tx l)) S0 Ex Q := lift2 (fun _ => op_in_sign) fun en W H x' y' ho rx ry => by
  cases rx
  cases ry
  exact ⟨c, S l, rfl, rfl, nx ho (.bl _) q⟩
theorem s_notInT (q : Q (.v (.bl (!decide (c ∈ l)))) S0) : sem2 B k (compareOp .NotIn) (.v (tx [c])) (.v (tx l)) S0 Ex Q := lift2 (fun _ => op_notIn_sign) fun en W H x' y' ho rx ry => by
  cases rx
  cases ry
  exact ⟨c, S l, rfl, rfl, nx ho (.bl _) q⟩
theorem s_catTx (h : l.length + m.length ≤ 1000000) (q : Q (.v (tx (l ++ m))) S0) : sem2 B k (binaryOp .Add) (.v (tx l)) (.v (tx m)) S0 Ex Q := s_catS (by rw [S_len, S_len, sizeLine_eq]; omega) (by rw [S_cat]; exact q)
theorem c_lenT (h : l.length ≤ 1000000) (q : Q (.v (.int l.length)) S0) : sCall B k (.builtin "len") [] [.v (tx l)] [] S0 Ex Q := c_lenS (by rw [S_len, sizeLine_eq]; omega) (by rw [S_len]; exact q)
theorem s_ixTx {c : Nat} (h : l.length ≤ 1000000) (e : L2.atI l i = some c) (q : Q (.v (tx [c])) S0) : sIx B k (.v (tx l)) (.v (.int i)) S0 Ex Q := s_ixS (by rw [S_len, sizeLine_eq]; omega) e q
theorem s_eqT (q : Q (.v (.bl (decide (l = m)))) S0) : sem2 B k (compareOp .Eq) (.v (tx l)) (.v (tx m)) S0 Ex Q := s_eqS (by
  have e : decide (S l = S m) = decide (l = m) := decide_eq_decide.mpr ⟨S_inj, fun h => by rw [h]⟩
  rw [e]
  exact q)
theorem s_neT (q : Q (.v (.bl (!decide (l = m)))) S0) : sem2 B k (compareOp .NotEq) (.v (tx l)) (.v (tx m)) S0 Ex Q := s_neS (by
  have e : decide (S l = S m) = decide (l = m) := decide_eq_decide.mpr ⟨S_inj, fun h => by rw [h]⟩
  rw [e]
  exact q)
def rMulT (c : Nat) : R2 := fun x y H Q => ∃ n : Int, x = .str (S [c]) ∧ y = .int n ∧ n ≤ 1000 ∧ -1000 ≤ n ∧ Q (.str (S (List.replicate n.toNat c))) H
theorem fold_rep (c : Nat) : ∀ (n : Nat) (a : Array Nat), (List.replicate n #[c]).foldl (· ++ ·) a = a ++ (List.replicate n c).toArray
  | 0, a => by simp
  | n + 1, a => by
    rw [List.replicate_succ, List.foldl_cons, fold_rep c n]
    rw [List.replicate_succ]
    apply Array.ext'
    simp
theorem op_mulT {X : Cx} : OpR X (binaryOp .Mult) (rMulT c) := by
  intro pins s σ H x y v u Q I rx ry h
  obtain ⟨n, rfl, rfl, hn, hn2, q⟩ := h
  obtain ⟨t, rfl⟩ := rx
  obtain ⟨t', rfl⟩ := ry
  have hr : (decide (n < -(2 ^ 63 : Int)) || decide (n ≥ 2 ^ 63)) = false := by
    rw [decide_eq_false (by omega), decide_eq_false (by omega)] <;> rfl
  refine PySem.P.mul_str hr (fun h1 _ => ?_) (fun h1 _ => ?_) ?_
  · have : (1 : Int) ≤ (2 ^ 63 - 1) / n := by
      rw [Int.le_ediv_iff_mul_le (by omega)]
      omega
    have e : ((S [c]).length : Int) = 1 := rfl
    omega
  · have e : (S [c]).length = 1 := rfl
    rw [e, Nat.one_mul]
    have : n.toNat ≤ 1000 := by omega
    unfold Builtin.Str.tooLong
    simp
    rw [sizeLine_eq]
    omega
  · by_cases h1 : n < 1
    · rw [if_pos h1]
      have e : n.toNat = 0 := by omega
      rw [e] at q
      exact ⟨by decide, .str (S []), H, I.tok _, ⟨_, rfl⟩, q⟩
    · rw [if_neg h1]
      by_cases h2 : (n == 1 || (S [c]).length == 0) = true
      · rw [if_pos h2]
        have e : n = 1 := by
          rcases Bool.or_eq_true _ _ |>.mp h2 with z | z
          · exact beq_iff_eq.mp z
          · cases z
        subst e
        exact ⟨.str (S [c]), H, I, ⟨_, rfl⟩, q⟩
      · rw [if_neg h2]
        have e : (⟨(List.replicate n.toNat (S [c]).cps).foldl (· ++ ·) #[]⟩ : Str) = S (List.replicate n.toNat c) := by
          show Str.mk _ = Str.mk _
          rw [fold_rep]
          simp
        refine ⟨?_, .str _, H, I.tok _, ⟨_, rfl⟩, ?_⟩
        · rw [e, S_len, List.length_replicate, sizeLine_eq]
          omega
        · rw [e]
          exact q
theorem s_mulT (h : i ≤ 1000) (h2 : -1000 ≤ i) (q : Q (.v (tx (List.replicate i.toNat c))) S0) : sem2 B k (binaryOp .Mult) (.v (tx [c])) (.v (.int i)) S0 Ex Q := lift2 (fun _ => op_mulT (c := c)) fun en W H x' y' ho rx ry => by
  cases rx
  cases ry
  exact ⟨i, rfl, rfl, h, h2, nx ho (.str _) q⟩
/-- sep.join(texts) -/
theorem m_join {sep : List Nat} (h : SqO S0 o (ls.map tx)) (hz : (ls.map (·.length)).sum + ls.length * sep.length ≤ 1000000) (q : Q (.v (tx (TL.joinL sep ls))) S0) : sCall B k (.builtin "str.join") [] [.v (tx sep), o] [] S0 Ex Q :=
  liftM (r := fun x xs H Q => ∃ a p, ∃ ys : List Str, x = .str a ∧ xs = [.ref p] ∧ (SqL B.K H p (ys.map V.str) ∨ SqT B.K H p (ys.map V.str)) ∧ (ys.map (·.length)).sum + ys.length * a.length ≤ 16777216 ∧ Q (.str (Txt.join a ys)) H) (fun {X en} ft => by
    have z := mt_join (X := X)
    rw [ft.K] at z
    exact z) fun en W H x' xs' ho rx rxs => by
  cases rx
  cases rxs with
  | cons r t =>
    cases t
    obtain ⟨a, vs, rfl, e, rr⟩ := sqO_at ho h r
    have e2 : ls.map tx = (ls.map S).map D.str := by rw [List.map_map] <;> rfl
    rw [e2] at rr
    have ev := rr.strs
    refine ⟨S sep, a, ls.map S, rfl, rfl, by rw [← ev]; exact e, ?_, ?_⟩
    · rw [lens, List.length_map, S_len]
      omega
    · rw [join_S]
      exact nx ho (.str _) q
/-- text.split(sign) -/
theorem m_split {sep : Nat} (hs : sep < 256) (hz : l.length ≤ 1000000) (q : NewL S0 Q ((TL.spl [sep] 0 [] l).map tx)) : sCall B k (.builtin "str.split") [] [.v (tx l), .v (tx [sep])] [] S0 Ex Q :=
  liftM (fun _ => mt_split) fun en W H x' xs' ho rx rxs => by
  cases rx
  cases rxs with
  | cons r t =>
    cases t
    cases r
    refine ⟨S l, S [sep], rfl, rfl, rfl, by rw [S_len, sizeLine_eq]; omega, ?_⟩
    have e : Txt.split (S l) (S [sep]) = (TL.spl [sep] 0 [] l).map S := split_S (List.cons_ne_nil _ _) (by simp [hs])
    intro p hp
    rw [e]
    have e2 : (TL.spl [sep] 0 [] l).map tx = ((TL.spl [sep] 0 [] l).map S).map D.str := by rw [List.map_map] <;> rfl
    rw [e2] at q
    exact nxN ho (reps_strs _) q p hp
/-- int(text) -/
theorem c_intT {n : Int} (h : intText? (S l) = some n) (hz : l.length ≤ 600) (q : Q (.v (.int n)) S0) : sCall B k (.type "int") [] [.v (tx l)] [] S0 Ex Q := liftC (fun _ => call_int_str) fun en W H xs' ho rx => by
  cases rx with
  | cons r t =>
    cases t
    cases r
    exact ⟨S l, n, rfl, h, by rw [S_len]; omega, nx ho (.int _) q⟩
/-- int(one figure) -/
theorem c_intF {n : Nat} (h : n ≤ 9) (q : Q (.v (.int n)) S0) : sCall B k (.type "int") [] [.v (tx [48 + n])] [] S0 Ex Q := c_intT (n := n) (by
  rcases (show n = 0 ∨ n = 1 ∨ n = 2 ∨ n = 3 ∨ n = 4 ∨ n = 5 ∨ n = 6 ∨ n = 7 ∨ n = 8 ∨ n = 9 by omega) with rfl | rfl | rfl | rfl | rfl | rfl | rfl | rfl | rfl | rfl <;> decide +kernel) (Nat.le_of_ble_eq_true rfl) q
/-- str(a figure) -/
theorem c_strF {n : Nat} (h : n ≤ 9) (q : Q (.v (tx [48 + n])) S0) : sCall B k (.type "str") [] [.v (.int n)] [] S0 Ex Q := c_strI (by
  rcases (show n = 0 ∨ n = 1 ∨ n = 2 ∨ n = 3 ∨ n = 4 ∨ n = 5 ∨ n = 6 ∨ n = 7 ∨ n = 8 ∨ n = 9 by omega) with rfl | rfl | rfl | rfl | rfl | rfl | rfl | rfl | rfl | rfl <;> decide +kernel) (by
  have e : (Str.ofString (toString (n : Int)) : Str) = S [48 + n] := by
    rcases (show n = 0 ∨ n = 1 ∨ n = 2 ∨ n = 3 ∨ n = 4 ∨ n = 5 ∨ n = 6 ∨ n = 7 ∨ n = 8 ∨ n = 9 by omega) with rfl | rfl | rfl | rfl | rfl | rfl | rfl | rfl | rfl | rfl <;> decide +kernel
  rw [e]
  exact q)
end
end Dt

set_option Elab.async false
set_option linter.all false
set_option maxRecDepth 100000
set_option maxHeartbeats 8000000
/-! DatU: x[::-1], star calls, calls of own instances -/
namespace HT
open PySem PySem.Spec PyProof.Rows
section
variable {prog : Program} {w : World} {A : Around} {E : Value → Shared → Prop} {s : Shared}
theorem sliceApplied_rev {sl : Addr} {vl vu vs : Value} {n : Nat} {Q : Int × Int × Nat → Shared → Prop} (hs : s.heap.IsSliceOf sl vl vu vs) (pl : IsPart vl none) (pu : IsPart vu none) (ps : IsPart vs (some (-1)))
    (h : Q (((n : Int) - 1), -1, n) s) : wpAny (model prog w) A (Builtin.Slice.sliceApplied (.ref sl) (pure (n : Int))) Q E s := by
  obtain ⟨os, hos, hcs, hds⟩ := id hs
  unfold Builtin.Slice.sliceApplied Builtin.Slice.sliceFields
  refine wpAny_bind (wpAny_bind (wpAny_field hos hds (x := vl) rfl (wpAny_bind (wpAny_field hos hds (x := vu) rfl (wpAny_bind (wpAny_field hos hds (x := vs) rfl (wpAny_pure ?_)))))))
  refine wpAny_bind (slicePart_ ps ?_)
  show wpAny _ _ (if ((-1 : Int) == 0) = true then _ else _) _ _ s
  rw [if_neg (by decide)]
  refine wpAny_bind (slicePart_ pl (wpAny_bind (slicePart_ pu (wpAny_bind (wpAny_pure ?_)))))
  show wpAny _ _ (match Builtin.Slice.sliceAdjust none none (-1) (n : Int) with | (lo, hi) => pure (lo, (-1 : Int), Builtin.Slice.slicePlaces lo hi (-1))) _ _ s
  have e : Builtin.Slice.sliceAdjust none none (-1) (n : Int) = ((n : Int) - 1, -1) := by
    unfold Builtin.Slice.sliceAdjust
    simp
  rw [e]
  show wpAny _ _ (pure (((n : Int) - 1), (-1 : Int), Builtin.Slice.slicePlaces ((n : Int) - 1) (-1) (-1))) _ _ s
  have e2 : Builtin.Slice.slicePlaces ((n : Int) - 1) (-1) (-1) = n := by
    unfold Builtin.Slice.slicePlaces
    rw [if_neg (by decide)]
    split
    · have e3 : ((n : Int) - 1 - -1 - 1) / (- -1) + 1 = n := by
        rw [Int.neg_neg, Int.ediv_one]
        omega
      rw [e3, Int.toNat_natCast]
    · have : n = 0 := by omega
      subst this
      rfl
  rw [e2]
  exact wpAny_pure h
theorem fm_congr {α β : Type} {f g : α → Option β} : ∀ {l : List α}, (∀ x ∈ l, f x = g x) → l.filterMap f = l.filterMap g
  | [], _ => rfl
  | a :: l, h => by
    rw [List.filterMap_cons, List.filterMap_cons, h a List.mem_cons_self, fm_congr fun x hx => h x (List.mem_cons_of_mem _ hx)]
theorem pick_rev (xs : Array Value) : ((List.range xs.size).filterMap fun (m : Nat) => xs[(((xs.size : Int) - 1) + (m : Int) * (-1)).toNat]?).toArray = xs.toList.reverse.toArray := by
  congr 1
  have key : ∀ l : List Value, ((List.range l.length).filterMap fun (m : Nat) => l[(((l.length : Int) - 1) + (m : Int) * (-1)).toNat]?) = l.reverse := fun l => by
    have e : ((List.range l.length).filterMap fun (m : Nat) => l[(((l.length : Int) - 1) + (m : Int) * (-1)).toNat]?) = (List.range l.length).filterMap fun m => l.reverse[m]? := by
      refine fm_congr fun m hm => ?_
      have hm := List.mem_range.mp hm
      have e1 : (((l.length : Int) - 1) + (m : Int) * (-1)).toNat = l.length - 1 - m := by omega
      rw [e1, List.getElem?_reverse hm]
    rw [e]
    have hl : l.length = l.reverse.length := List.length_reverse.symm
    rw [hl]
    generalize l.reverse = r
    apply List.ext_getElem?
    intro i
    induction r generalizing i with
    | nil => simp
    | cons a r ih =>
      rw [List.length_cons, List.range_succ_eq_map, List.filterMap_cons]
      simp only [List.getElem?_cons_zero]
      rw [List.filterMap_map]
      cases i with
      | zero => rfl
      | succ i =>
        rw [List.getElem?_cons_succ, List.getElem?_cons_succ]
        exact ih i
  have := key xs.toList
  rw [Array.length_toList] at this
  rw [← this]
  refine fm_congr fun m _ => ?_
  rw [Array.getElem?_toList]
theorem getItem_tuple_rev {t sl : Addr} {items : Array Value} {vl vu vs : Value} {Q : Value → Shared → Prop} (ht : IsTup s.heap t items) (hs : s.heap.IsSliceOf sl vl vu vs) (pl : IsPart vl none) (pu : IsPart vu none) (ps : IsPart vs (some (-1)))
    (h : Q (.ref s.heap.objs.size) { s with heap := s.heap.push { cls := .type "tuple", data := .seq items.toList.reverse.toArray } })
    (hsz : items.size ≤ sizeLine) : wpAny (model prog w) A (getItem (.ref t) (.ref sl)) Q E s := by
  have htake : sizeOk (.seq items.toList.reverse.toArray) := by
    show items.toList.reverse.toArray.size ≤ sizeLine
    rw [List.size_toArray, List.length_reverse, Array.length_toList]
    exact hsz
  obtain ⟨os, hos, hcs, hds⟩ := id hs
  have hTs : s.TypeIs (.ref sl) "slice" := ⟨os, hos, hcs⟩
  unfold getItem
  try with_reducible refine wpAny_holding ?_
  first | refine wpAny_bind (wpAny_pure ?_) | skip
  refine wpAny_bind (wpAny_sequenceKey ht.typeIs (by decide) ?_)
  refine wpAny_bind (wpAny_callSpecial?_slot (name := Str.ofString "__getitem__") ht.typeIs PyProof.Rows.slot_tuple_getitem
    (wpAny_call_entry PyProof.Rows.slot_tuple_getitem ht.typeIs entry_tuple_getitem ?_ (args_tuple_getitem _ _)))
  show wpAny _ _ (Builtin.Tuple.tupleItemsOf (.ref t) >>= _) _ _ s
  refine wpAny_bind (tupleItemsOf_ ht ?_)
  refine wpAny_bind (wpAny_typeOf hTs ?_)
  rw [if_pos (by decide)]
  refine wpAny_bind (sliceApplied_rev hs pl pu ps ?_)
  have hno : ¬ ((((items.size : Int) - 1) == 0 && (-1 : Int) == 1 && items.size == items.size) = true) := by
    intro q
    rw [Bool.and_eq_true, Bool.and_eq_true] at q
    exact absurd q.1.2 (by decide)
  show wpAny _ _ (if (((items.size : Int) - 1) == 0 && (-1 : Int) == 1 && items.size == items.size) = true then _ else _) _ _ s
  rw [if_neg hno, pick_rev]
  first
    | exact wpAny_bind (m := Builtin.Tuple.tupleExact _) (wpAny_newObj_type (wpAny_pure ⟨_, rfl, wpAny_pure h⟩) htake)
    | exact wpAny_bind (m := Builtin.Tuple.tupleExact _) (wpAny_newObj_type (wpAny_bind (wpAny_pure (wpAny_pure ⟨_, rfl, wpAny_pure h⟩))) htake)
end
end HT
namespace Dt
open PySem PySem.Spec PyProof.Rows L2 My He SX
section
variable {G : Cf} {X : Cx} {en : En} {W W1 : Wd} {σ : L2.St} {H H1 : Hp} {ρ : List Sl} {S S1 : Sto} {E : XD} {pins : List (Addr × Obj)} {s s1 : Shared} {e a b c o : Expr} {es : List Expr} {t ta tb tc te to : RE} {tA tK : RA} {pos p apos p1 p2 p3 sp_ : Pos} {x m : Str}
/-- x[::-1] -/
abbrev dRev (te : RE) : RE := fun ρ S E Q => te ρ S E fun o S1 => (∃ xs, o = .v (.tup xs) ∧ Q (.v (.tup xs.reverse)) S1) ∨ ∃ xs, LsO S1 o xs ∧ NewL S1 Q xs.reverse
theorem de_rev {k : Nat} (he : DE G e te) : DE G (.Subscript e (.Slice none none (some (.UnaryOp .USub (.Constant (.int 1) k p1) p2)) p3) pos) (dRev te) := by
  refine ⟨fun {X en W σ H ρ S E pins s Q} z q => ?_⟩
  refine Subscript_ (he.at z q fun v s1 x' H1 W1 o S1 z1 g1 r1 ro q1 => ?_)
  have I1 := z1.I
  have hst : PO X (some (.UnaryOp .USub (.Constant (.int 1) k p1) p2)) (tPart (tUn (rU fun i => .int (-i)) (tC (.int 1)))) := po_some (pe_un un_neg pe_int)
  refine wpAny_Slice (thn (po_none.run pins s1 σ H1 (fun o H2 => o = none ∧ H2 = H1) I1 ⟨rfl, rfl⟩) fun vl s2 ⟨l, H2, I2, pl, el, e2⟩ => ?_)
  subst el e2
  refine thn (po_none.run pins s2 σ H2 (fun o H3 => o = none ∧ H3 = H2) I2 ⟨rfl, rfl⟩) fun vu s3 ⟨u, H3, I3, pu, eu, e3⟩ => ?_
  subst eu e3
  refine thn (hst.run pins s3 σ H3 (fun o H4 => o = some (-1) ∧ H4 = H3) I3 ⟨1, rfl, -1, rfl, rfl, rfl⟩) fun vs s4 ⟨o4, H4, I4, ps, eo, e4⟩ => ?_
  subst eo e4
  have I5 : Inv X pins σ H4 { s4 with heap := s4.heap.push { cls := .type "slice", data := .fields #[vl, vu, vs] } } := I4.kept (t' := s4.toks) fun b ob q => Heap.get?_push_of_some _ q
  show wpAny (model X.prog X.w) X.A (subscriptTail e (.Slice none none (some (.UnaryOp .USub (.Constant (.int 1) k p1) p2)) p3) v (.ref s4.heap.objs.size)) (EP X pins σ (Nx G.B.K en W H Q)) X.xe { s4 with heap := s4.heap.push { cls := .type "slice", data := .fields #[vl, vu, vs] } }
  rcases q1 with ⟨xs, eo, q1⟩ | ⟨xs, lo, q1⟩
  · subst eo
    obtain ⟨a, us, rfl, hq, rr⟩ := Rep.tupI ro
    obtain rfl : v = Value.ref a := r1
    obtain ⟨its, r, ht, hz⟩ := I5.tuple (show SqT X.K H4 a us by rw [z1.hf.b.K]; exact sqT_le z1.rs.ho.fh hq)
    refine tail_any (ops := [.ref a, .ref s4.heap.objs.size]) ht.typeIs (PyProof.Rows.slot_tuple_getitem.lookup) ?_ (by with_unfolding_all rfl)
    refine HT.getItem_tuple_rev ht (Heap.IsSliceOf.new _ vl vu vs) pl pu ps ?_ (by rw [List.size_toArray, ← r.length]; exact hz)
    have hn := I5.hok.fresh (Nat.le_refl _)
    refine ⟨.ref _, _, I5.laid (t' := s4.toks) (o := .tup us.reverse) (fun b ob q => Heap.get?_push_of_some _ q) (Nat.le_refl _) ?_, rfl, Nx.back g1 _ _ (nxT z1.rs.ho rr.rev q1 _ hn)⟩
    exact ⟨by rw [List.length_reverse]; exact hz, _, r.reverse, IsTup.new _ _⟩
  · obtain ⟨a, us, rfl, hq, rr⟩ := lsO_at z1.rs.ho lo ro
    obtain rfl : v = Value.ref a := r1
    obtain ⟨its, r, ht, hz⟩ := I5.list (show SqL X.K H4 a us by rw [z1.hf.b.K]; exact .inl hq)
    have hlen := r.length
    refine tail_any (ops := [.ref a, .ref s4.heap.objs.size]) ht.isList.typeIs (PySem.slot_list_getitem.lookup) ?_ (by with_unfolding_all rfl)
    refine wpAny_getItem_list_slice ht.isList (Heap.IsSliceOf.new _ vl vu vs) pl pu ps (by decide) ?_ (by rw [List.size_toArray]; omega)
    rw [PySem.W.krv_pick]
    have hn := I5.hok.fresh (Nat.le_refl _)
    refine ⟨.ref _, _, I5.laid (t' := s4.toks) (o := .lst us.reverse) (fun b ob q => Heap.get?_push_of_some _ q) (Nat.le_refl _) ?_, rfl, Nx.back g1 _ _ (nxN z1.rs.ho rr.rev q1 _ hn)⟩
    exact ⟨by rw [List.length_reverse]; exact hz, _, 0, r.reverse, Heap.get?_push_size _ rfl⟩
/-- the callable in a slot -/
abbrev dCallLS (B : Bs) (k : Nat) (i : Nat) (te : RE) : RE := fun ρ S E Q => ∃ d fv, ρ[i]? = some (.sh d) ∧ Fv B.K d fv ∧ PySem.W.keepIn B.K fv = true ∧ te ρ S E fun o S1 => ∃ ds, SqO S1 o ds ∧ sFun B k fv [] ds [] S1 (E ρ) Q
theorem de_callLS {i : Nat} (hc : G.B.hot = false) (hN : G.N[i]? = some x) (hv : Vis G.sc x) (he : DE G e te) (hdb : (x == ("__debug__" : Str)) = false := by decide) (hcd : (x == ("__classdict__" : Str)) = false := by decide)
    (hst : ∀ env : Env, starEach [.Starred e sp_] env = [(true, eval e env)] := by intro _; rfl) : DE G (.Call (.Name x p) [.Starred e sp_] [] pos) (dCallLS G.B G.k i te) := by
  refine ⟨fun {X en W σ H ρ S E pins s Q} z ⟨d, fv, e1, hfv, hkp, q⟩ => wpAny_Call_Name_kw ?_⟩
  have P0 : PE X (.Name x p) (tVar i) := pe_var (by rw [z.hf.N]; exact hN) (by rw [z.hf.sc]; exact hv) hdb hcd
  obtain ⟨v, e2, r⟩ := z.rs.sl i _ e1
  refine thn (P0.run pins s σ H (fun v' H' => v' = v ∧ H' = H) z.I ⟨v, e2, rfl, rfl⟩) fun u s1 ⟨v', H1, I1, rv, e3, e4⟩ => ?_
  subst e3 e4
  rw [fv_eq hfv r rv]
  have z0 : At G X en W σ H1 ρ S E pins s1 := ⟨z.hf, z.tk, z.rs, I1⟩
  refine PySem.W.callWith_S (h₀ := X.base) z0.kin hkp (he.at z0 q fun v s1 x' H1 W1 o1 S1 z1 g1 r1 ro ⟨ds, sq, q1⟩ => ?_) (hst _)
  obtain ⟨a, vs, rfl, hq, rr⟩ := sqO_at z1.rs.ho sq ro
  obtain rfl : v = Value.ref a := r1
  refine StX.star_any z1.I (show SqT X.K H1 a vs ∨ SqL X.K H1 a vs by rw [z1.hf.b.K]; exact hq.symm) fun us s2 I2 rvs => ⟨(z1.re I2).kIn, ?_⟩
  exact thn (q1.run (us' := []) (ws := []) hc z1.hf.b z1.xn z1.rs.ho rr .nil I2 rvs .nil) fun _ _ => ep_back g1
end
end Dt

set_option Elab.async false
set_option linter.all false
set_option maxRecDepth 100000
set_option maxHeartbeats 8000000
/-! DatV: x, y = .., where a new list may stand on the right -/
namespace Dt
open PySem PySem.Spec PyProof.Rows L2 My He SX
/-- a value, or a new list -/
inductive VO where
  | v (d : D) | f (xs : List D)
def VO.sl : VO → Sl
  | .v d => .sh d
  | .f xs => .ol xs
def RepV (K : PySem.W.Frag) (en : En) (W : Wd) (H0 H : Hp) : VO → V → Prop
  | .v d, x => Rep K W d x
  | .f xs, x => ∃ a vs, x = .ref a ∧ H a = some (.lst vs) ∧ Reps K W xs vs ∧ Own en W H a ∧ H0 a = none
theorem RepV.go {K : PySem.W.Frag} {en : En} {W W' : Wd} {H0 H H' : Hp} {o : VO} {x : V} (g : Go W H W' H') (h : RepV K en W H0 H o x) : RepV K en W' H0 H' o x := by
  cases o with
  | v d => exact Rep.le g.le h
  | f xs =>
    obtain ⟨a, vs, e, h1, r, w, n⟩ := h
    exact ⟨a, vs, e, g.kp _ _ h1 w.m, r.le g.le, w.go g h1, n⟩
abbrev RV := List Sl → Sto → XD → (VO → Sto → Prop) → Prop
abbrev RVs := List Sl → Sto → XD → (List VO → Sto → Prop) → Prop
structure DV (G : Cf) (e : Expr) (t : RV) : Prop where
  run : ∀ {X en W σ H ρ S E pins s Q}, At G X en W σ H ρ S E pins s → t ρ S E Q → wpAny (model X.prog X.w) X.A (eval e X.env) (fun v s1 => ∃ x' H1 W1 o S1, Inv X pins σ H1 s1 ∧ RelV x' v ∧ Ho G.B.K W1 H1 S1 ∧ Go W H W1 H1 ∧ RepV G.B.K en W1 H H1 o x' ∧ Q o S1) X.xe s
def Apart2 (H : Hp) (x : V) : List VO → List V → Prop
  | .f _ :: os, y :: ys => x ≠ y ∧ Apart2 H x os ys
  | .v _ :: os, _ :: ys => Apart2 H x os ys
  | _, _ => True
inductive RepVs (K : PySem.W.Frag) (en : En) (W : Wd) (H0 H : Hp) : List VO → List V → Prop
  | nil : RepVs K en W H0 H [] []
  | cons {o : VO} {x : V} {os : List VO} {xs : List V} (h : RepV K en W H0 H o x) (t : RepVs K en W H0 H os xs) (d : ∀ ys, o = .f ys → Apart2 H x os xs) : RepVs K en W H0 H (o :: os) (x :: xs)
structure DVs (G : Cf) (es : List Expr) (t : RVs) : Prop where
  run : ∀ (pos : Pos) {X en W σ H ρ S E pins s Q}, At G X en W σ H ρ S E pins s → t ρ S E Q → wpAny (model X.prog X.w) X.A (spliced (backTo pos (starEach es X.env))) (fun us s1 => ∃ vs H1 W1 os S1, Inv X pins σ H1 s1 ∧ Vals vs us ∧ Ho G.B.K W1 H1 S1 ∧ Go W H W1 H1 ∧ RepVs G.B.K en W1 H H1 os vs ∧ Q os S1) X.xe s
section
variable {G : Cf} {X : Cx} {en : En} {W W1 : Wd} {σ : L2.St} {H H1 : Hp} {ρ : List Sl} {S S1 : Sto} {E : XD} {pins : List (Addr × Obj)} {s s1 : Shared} {e a b c o : Expr} {es : List Expr} {t ta tb tc te to : RE} {tA tK : RA} {pos p apos : Pos} {x m : Str}
abbrev vDe (te : RE) : RV := fun ρ S E Q => te ρ S E fun o S1 => ∃ d, o = .v d ∧ Q (.v d) S1
theorem dv_de (h : DE G e te) : DV G e (vDe te) := by
  refine ⟨fun {X en W σ H ρ S E pins s Q} z q => h.at z q fun v s1 x' H1 W1 o S1 z1 g1 r1 ro ⟨d, eo, q1⟩ => ?_⟩
  subst eo
  exact ⟨x', H1, W1, .v d, S1, z1.I, r1, z1.rs.ho, g1, ro, q1⟩
abbrev vDf (tf : RF) : RV := fun ρ S E Q => tf ρ S E fun xs S1 => Q (.f xs) S1
theorem own_new {K : PySem.W.Frag} {a : Addr} {S' : Sto} (r : Rs K en W σ H ρ S) (h : Ho K W1 H1 S') (g : Go W H W1 H1) (n : H a = none) (nf : W1.F a = none) (nm : ∀ i, i < W1.n → W1.m i ≠ a) : Own en W1 H1 a := by
  have r1 := r.after h g
  refine ⟨nf, ?_, nm⟩
  cases q : en.H a with
  | none => rfl
  | some u =>
    have k := r.go.kp a u q fun j hj c => by
      rw [← r1.go.le.m j hj] at c
      exact nm j (Nat.lt_of_lt_of_le hj r1.go.le.n) c
    rw [n] at k
    cases k
theorem dv_df {tf : RF} (h : DF G e tf) : DV G e (vDf tf) := by
  refine ⟨fun {X en W σ H ρ S E pins s Q} z q => thn (h.run z q) fun v s1 ⟨a, H1, W1, vs, xs, S1, I1, ev, ha, rr, h1, g1, n, nf, nm, q1⟩ => ?_⟩
  subst ev
  exact ⟨.ref a, H1, W1, .f xs, S1, I1, rfl, h1, g1, ⟨a, vs, rfl, ha, rr, own_new z.rs h1 g1 n nf nm, n⟩, q1⟩
abbrev vNil : RVs := fun _ S _ Q => Q [] S
abbrev vCons (t : RV) (u : RVs) : RVs := fun ρ S E Q => t ρ S E fun x S1 => u ρ S1 E fun xs S2 => Q (x :: xs) S2
theorem dvs_nil : DVs G [] vNil := ⟨fun pos {X en W σ H ρ S E pins s Q} z q => Calls.spliced_nil ⟨[], H, W, [], S, z.I, .nil, z.rs.ho, .refl, .nil, q⟩⟩
theorem apart_of {K : PySem.W.Frag} {W : Wd} {Hm H2 : Hp} {a : Addr} (ha : ∃ u, Hm a = some u) : ∀ {os : List VO} {vs : List V}, RepVs K en W Hm H2 os vs → Apart2 H2 (.ref a) os vs
  | [], _, .nil => trivial
  | .v d :: os, _ :: vs, .cons _ t _ => show Apart2 H2 (.ref a) os vs from apart_of ha t
  | .f xs :: os, _, .cons h t _ => by
    obtain ⟨b, _, rfl, _, _, _, n⟩ := h
    refine ⟨fun e => ?_, apart_of ha t⟩
    cases e
    obtain ⟨u, hu⟩ := ha
    rw [hu] at n
    cases n
theorem RepVs.back {K : PySem.W.Frag} {Hm H2 : Hp} {W1 : Wd} (k : ∀ a, Hm a = none → H a = none) : ∀ {os : List VO} {vs : List V}, RepVs K en W Hm H2 os vs → RepVs K en W H H2 os vs
  | [], _, .nil => .nil
  | .v d :: os, _, .cons h t d' => .cons h (RepVs.back (W1 := W1) k t) d'
  | .f xs :: os, _, .cons h t d' => .cons (let ⟨b, vs, e, h1, r, w, n⟩ := h; ⟨b, vs, e, h1, r, w, k _ n⟩) (RepVs.back (W1 := W1) k t) d'
theorem dvs_cons {tv : RV} {tr : RVs} (ha : DV G e tv) (hr : DVs G es tr) (hs : ∀ env : Env, starEach (e :: es) env = (false, eval e env) :: starEach es env := by intro _; rfl) : DVs G (e :: es) (vCons tv tr) := by
  refine ⟨fun pos {X en W σ H ρ S E pins s Q} z q => ?_⟩
  rw [hs]
  show wpAny _ _ (spliced ((false, eval e X.env) :: backTo pos (starEach es X.env))) _ _ s
  refine Calls.spliced_cons (thn (ha.run z q) fun u s1 ⟨x', H1, W1, o, S1, I1, r1, h1, g1, ro, q1⟩ => ?_)
  refine thn (hr.run pos (z.next I1 h1 g1) q1) fun us s2 ⟨vs, H2, W2, os, S2, I2, r2, h2, g2, ro2, q2⟩ => ?_
  have nn : ∀ a, H1 a = none → H a = none := fun a n => by
    cases y : H a with
    | none => rfl
    | some u =>
      by_cases c : ∃ i, i < W.n ∧ W.m i = a
      · obtain ⟨i, hi, c⟩ := c
        rw [← g1.le.m i hi] at c
        obtain ⟨u2, e2⟩ := h1.there i (Nat.lt_of_lt_of_le hi g1.le.n)
        rw [c, n] at e2
        cases e2
      · have := g1.kp a u y fun i hi k => c ⟨i, hi, k⟩
        rw [n] at this
        cases this
  refine ⟨x' :: vs, H2, W2, o :: os, S2, I2, .cons r1 r2, h2, g1.trans g2 h2, .cons (ro.go g2) (ro2.back (W1 := W1) nn) fun ys e => ?_, q2⟩
  subst e
  obtain ⟨a, us', rfl, ha1, _⟩ := ro
  exact apart_of ⟨_, ha1⟩ ro2
/-- a slot gets a value or a new list -/
theorem Rs.setV {K : PySem.W.Frag} {H0 : Hp} {v : VO} {x : V} (r : Rs K en W σ H ρ S) (i : Nat) (h : RepV K en W H0 H v x) (n : ∀ xs a, v = .f xs → x = .ref a → ∀ (j : Nat) (t : Sl), i ≠ j → ρ[j]? = some t → isOwn t = true → σ[j]? = some (some (.ref a)) → False) : Rs K en W (σ.set i (some x)) H (ρ.set i v.sl) S := by
  cases v with
  | v d => exact r.set i (s := .sh d) rfl ⟨x, rfl, h⟩
  | f xs =>
    obtain ⟨a, vs, rfl, h1, rr, w, _⟩ := h
    exact r.setO i (s := .ol xs) ⟨a, vs, rfl, h1, rr, w⟩ (n xs a rfl rfl)
/-- no own slot has a new address -/
theorem slot_old {K : PySem.W.Frag} {a : Addr} (r : Rs K en W σ H ρ S) (n : H a = none) (j : Nat) (t : Sl) (e : ρ[j]? = some t) (o : isOwn t = true) (q : σ[j]? = some (some (.ref a))) : False := by
  have k := r.sl j t e
  rw [q] at k
  obtain ⟨b, u, e2, k2, _⟩ := k.own o
  cases e2
  rw [n] at k2
  cases k2
def dParV (i j : Nat) (tA : RVs) : RS := fun D ρ S => tA ρ S D.ex fun os S1 => ∃ x y, os = [x, y] ∧ D.nx ((ρ.set i x.sl).set j y.sl) S1
theorem set_of {K : PySem.W.Frag} {Hm : Hp} {u : VO} {xu : V} {a : Addr} {i j : Nat} {σ' : L2.St} {ρ' : List Sl} (e1 : ∀ k, k ≠ i → ρ'[k]? = ρ[k]?) (e2 : ∀ k, k ≠ i → σ'[k]? = σ[k]?) (ei : ρ'[i]? = none ∨ ρ'[i]? = some u.sl) (si : σ'[i]? = none ∨ σ'[i]? = some (some xu))
    (nu : ∀ xs, u = .f xs → xu ≠ .ref a) (old : ∀ (k : Nat) (t : Sl), ρ[k]? = some t → isOwn t = true → σ[k]? = some (some (.ref a)) → False) (k : Nat) (t : Sl) (e : ρ'[k]? = some t) (o : isOwn t = true) (q : σ'[k]? = some (some (.ref a))) : False := by
  by_cases z : k = i
  · subst z
    rcases ei with h | h
    · rw [h] at e
      cases e
    · rw [h] at e
      cases e
      rcases si with g | g
      · rw [g] at q
        cases q
      · rw [g] at q
        cases q
        cases u with
        | v d => cases o
        | f xs => exact nu xs rfl rfl
  · rw [e1 k z] at e
    rw [e2 k z] at q
    exact old k t e o q
theorem get_set_or {α : Type} (l : List α) (i : Nat) (x : α) : (l.set i x)[i]? = none ∨ (l.set i x)[i]? = some x := by
  by_cases h : i < l.length
  · exact .inr (List.getElem?_set_self h)
  · exact .inl (List.getElem?_eq_none (by rw [List.length_set]; omega))
theorem ds_parV {i j : Nat} {y : Str} {px py pt : Pos} {kt k2 pt2} {tA : RVs} (hc : G.B.cal = false) (hi : G.N[i]? = some x) (hj : G.N[j]? = some y) (hij : i ≠ j) (hx : G.sc.names.lookup x = some .local) (hy : G.sc.names.lookup y = some .local) (ha : DVs G [a, b] tA)
    (hw : ∀ env : Env, env.scope = G.sc → swappedStores [.Tuple [.Name x px, .Name y py] kt pt] (.Tuple [a, b] k2 pt2) env = pure (some [x, y]))
    (hs : ∀ env : Env, swapsWithSole [.Tuple [.Name x px, .Name y py] kt pt] (.Tuple [a, b] k2 pt2) pos.line env = pure false := by intro _; rfl) :
    DS G (.Assign [.Tuple [.Name x px, .Name y py] kt pt] (.Tuple [a, b] k2 pt2) pos) (dParV i j tA) := by
  refine ⟨fun {X en W σ H ρ S pins s D} z q => ?_⟩
  have PP := ps_par (X := X) (pos := pos) (px := px) (py := py) (pt := pt) (kt := kt) (k2 := k2) (pt2 := pt2) (z.hf.b.cm hc).1 z.hf.nd (by rw [z.hf.N]; exact hi) (by rw [z.hf.N]; exact hj) hij (by rw [z.hf.sc]; exact hx) (by rw [z.hf.sc]; exact hy) (acan X [a, b]) (hw _ z.hf.sc) (hs _)
  refine PP.run pins s σ H _ z.I fun pos' pins' s' I => ?_
  refine thn (ha.run pos' (z.re I) q) fun us s2 ⟨vs, H1, W1, os, S1, I1, r1, h1, g1, ro, u, v, eo, q1⟩ => ?_
  subst eo
  cases ro with
  | cons ru ro du =>
    rename_i xu _
    cases ro with
    | cons rv ro dv =>
      rename_i xv _
      cases ro
      have rs1 := z.rs.after h1 g1
      have old : ∀ (a : Addr), H a = none → ∀ (k : Nat) (t : Sl), ρ[k]? = some t → isOwn t = true → σ[k]? = some (some (.ref a)) → False := fun a n k t e o q => slot_old z.rs n k t e o q
      have rs2 := rs1.setV i ru fun xs a eu ex k t _ e o q => by
        subst eu
        obtain ⟨a', _, ex', _, _, _, n⟩ := ru
        rw [ex] at ex'
        cases ex'
        exact old a n k t e o q
      have rs3 := rs2.setV j rv fun xs a ev ex k t _ e o q => by
        subst ev
        obtain ⟨a', _, ex', _, _, _, n⟩ := rv
        rw [ex] at ex'
        cases ex'
        refine set_of (K := G.B.K) (Hm := H) (u := u) (xu := xu) (i := i) (j := j) (fun k hk => List.getElem?_set_ne (Ne.symm hk)) (fun k hk => List.getElem?_set_ne (Ne.symm hk)) (get_set_or _ _ _) (get_set_or _ _ _) (fun ys eu => ?_) (old a n) k t e o q
        have := du ys eu
        rw [ex] at this
        exact this.1
      exact ⟨_, H1, I1, r1, _, _, rfl, W1, _, S1, rs3, g1.le, q1⟩
def dParV3 (i j l : Nat) (tA : RVs) : RS := fun D ρ S => tA ρ S D.ex fun os S1 => ∃ x y z, os = [x, y, z] ∧ D.nx (((ρ.set i x.sl).set j y.sl).set l z.sl) S1
end
theorem q_parV {i j : Nat} {tA : RVs} {ex : XD} {nx bk ct : List Sl → Sto → Prop} {rt : D → List Sl → Sto → Prop} {ρ : List Sl} {S : Sto} (h : tA ρ S ex fun os S1 => ∃ x y, os = [x, y] ∧ nx ((ρ.set i x.sl).set j y.sl) S1) : dParV i j tA ⟨nx, rt, bk, ct, ex⟩ ρ S := h
theorem q_parV3 {i j l : Nat} {tA : RVs} {ex : XD} {nx bk ct : List Sl → Sto → Prop} {rt : D → List Sl → Sto → Prop} {ρ : List Sl} {S : Sto} (h : tA ρ S ex fun os S1 => ∃ x y z, os = [x, y, z] ∧ nx (((ρ.set i x.sl).set j y.sl).set l z.sl) S1) : dParV3 i j l tA ⟨nx, rt, bk, ct, ex⟩ ρ S := h
theorem q_vv {d : D} {P : VO → Prop} (h : P (.v d)) : ∃ d', O.v d = .v d' ∧ P (.v d') := ⟨d, rfl, h⟩
theorem q_twoV {x y : VO} {P : VO → VO → Prop} (h : P x y) : ∃ a b, [x, y] = [a, b] ∧ P a b := ⟨x, y, rfl, h⟩
theorem q_threeV {x y z : VO} {P : VO → VO → VO → Prop} (h : P x y z) : ∃ a b c, [x, y, z] = [a, b, c] ∧ P a b c := ⟨x, y, z, rfl, h⟩
end Dt

set_option Elab.async false
set_option linter.all false
set_option maxRecDepth 100000
set_option maxHeartbeats 8000000
/-! DatW: dict(pairs), d.get, str(text) -/
namespace Dt
open PySem PySem.Spec PyProof.Rows L2 My He SX
section
variable {B : Bs} {k : Nat} {S0 : Sto} {Ex : XS} {Q : QO} {o : O}
end
section
variable {G : Cf} {X : Cx} {en : En} {W W1 : Wd} {σ : L2.St} {H H1 : Hp} {ρ : List Sl} {S S1 : Sto} {pins : List (Addr × Obj)} {s s1 : Shared} {e f o : Expr} {te tf to : RE} {pos p apos cpos : Pos}
/-- d.get(k, e) -/
abbrev dGet2 (to te tf : RE) : RE := fun ρ S E Q => to ρ S E fun o S1 => (∃ kvs, DcO S1 o kvs) ∧ te ρ S1 E fun y S2 => tf ρ S2 E fun z S3 => ∃ kvs k d, DcO S3 o kvs ∧ y = .v (kD k) ∧ z = .v d ∧ Q (.v ((valD kvs k).getD d)) S3
theorem de_get2 (ho : DE G o to) (he : DE G e te) (hf : DE G f tf) (m : ∀ X : Cx, M2 X o "get" apos e f cpos) : DE G (.Call (.Attribute o "get" apos) [e, f] [] cpos) (dGet2 to te tf) := by
  refine ⟨fun {X en W σ H ρ S E pins s Q} z q => ?_⟩
  have PP := pe_dget2 (X := X) (by have := z.hf.b.units; omega) (pcan X o) (pcan X e) (pcan X f) (m X)
  refine PP.run pins s σ H _ z.I fun pins1 s1 I1 => ?_
  refine ho.at (z.re I1) q fun v s2 x' H1 W1 o1 S1 z1 g1 r1 ro ⟨⟨kvs, dc⟩, q1⟩ => ?_
  obtain ⟨a, vs, rfl, ea, rk⟩ := dcO_at z1.rs.ho dc ro
  refine ⟨.ref a, H1, z1.I, r1, a, rfl, .inl ⟨vs, .inl ea⟩, fun pins2 s3 I2 => ?_⟩
  refine he.at (z1.re I2) q1 fun u s4 y' H2 W2 o2 S2 z2 g2 r2 ro2 q2 => ?_
  refine ⟨y', H2, z2.I, r2, fun pins3 s5 I3 => ?_⟩
  refine hf.at (z2.re I3) q2 fun t s6 w' H3 W3 o3 S3 z3 g3 r3 ro3 ⟨kvs2, k, d, dc2, ey, ez, q3⟩ => ?_
  subst ey ez
  have g23 := g2.trans g3 z3.rs.ho
  have g13 := g1.trans g23 z3.rs.ho
  obtain ⟨a2, vs2, ea2, eb, rk2⟩ := dcO_at (en := en) z3.rs.ho dc2 (RepO.go g23 ro)
  cases ea2
  obtain rfl := rep_key (Rep.le g3.le ro2)
  refine ⟨w', H3, z3.I, r3, valV vs2 k, .k eb, ?_⟩
  rcases rk2.val k with ⟨e1, e2⟩ | ⟨dd, ww, e1, e2, rr⟩
  · rw [e2]
    rw [e1] at q3
    exact ⟨W3, .v d, S3, z3.rs.ho, g13, ro3, q3⟩
  · rw [e2]
    rw [e1] at q3
    exact ⟨W3, .v dd, S3, z3.rs.ho, g13, rr, q3⟩
end
theorem q_isS {x : Str} {S : Sto} {A : Prop} (h : A) : dBM0.isT "str" (.v (.str x)) S ∧ A := ⟨rfl, h⟩
theorem q_isL {xs : List D} {S : Sto} {A : Prop} (h : A) : dBM0.isT "list" (.v (.lst xs)) S ∧ A := ⟨rfl, h⟩
end Dt

set_option Elab.async false
set_option linter.all false
set_option maxRecDepth 100000
set_option maxHeartbeats 8000000
/-! DatZW: objects of classes without __eq__, __bool__, __len__ of their own: truth, and == by identity -/
namespace Dt
open PySem PySem.Spec PyProof.Rows L2 My
namespace IdO
open PySem.W PySem.Calls
section
variable {prog : Program} {w : World} {A : Around} {E : Value → Shared → Prop} {s : Shared} {K : Frag} {x y C L : Addr} {h₀ : Heap} {m : Str → Option Value} {ox oy : Obj} {od : Option Obj}
end
end IdO
structure IdOk (K : PySem.W.Frag) (C : Addr) : Prop where
  eq : PySem.W.findIn K (.ref C) "__eq__" = some (some (.builtin "object.__eq__"))
  ob : PySem.W.subIn K (.ref C) (.type "object") = some true
  bo : PySem.W.findIn K (.ref C) "__bool__" = some none
  le : PySem.W.findIn K (.ref C) "__len__" = some none
section
variable {B : Bs} {k : Nat} {S : Sto} {Ex : XS} {C : Str} {fs gs : List (Str × D)} {d e : D}
end
end Dt

set_option Elab.async false
set_option linter.all false
set_option maxRecDepth 100000
set_option maxHeartbeats 8000000
/-! DatZY: o.f = v where f is a property with a setter -/
namespace Dt
open PySem PySem.Spec PyProof.Rows L2 My He
structure PropS (K : PySem.W.Frag) (C : Addr) (f : Str) (p g : Addr) : Prop where
  tk : PySem.W.takerIn K C f = some (some (.ref p))
  ty : PySem.W.typeIn K (.ref p) = some (.type "property")
  rec_ : ∃ a rest, PySem.W.recIn K p "property" = some (a :: .ref g :: rest)
section
variable {G : Cf} {X : Cx} {en : En} {W W1 : Wd} {σ : L2.St} {H H1 : Hp} {ρ : List Sl} {S S1 : Sto} {E : XD} {pins : List (Addr × Obj)} {s s1 : Shared} {o v : Expr} {to tv : RE} {pos pos' : Pos}
end
end Dt

set_option Elab.async false
set_option linter.all false
set_option maxRecDepth 100000
set_option maxHeartbeats 8000000
namespace Toy
open PySem PySem.Spec PyProof.Rows L2 My Dt SX
def top (i : Nat) : Stmt := PySem.Challenge.pw_drawclaims_k25_counts_by_all_draws.main.body.getD i (.Pass ⟨0, 0, 0, 0⟩)
abbrev s_is_integer : Stmt := (top 16)
theorem sc_is_integer : FnScope ["value"] ["value"] (defScope s_is_integer) := ⟨rfl, rfl, rfl, by decide +kernel, rfl, by decide +kernel, by decide +kernel⟩
abbrev s_common_divisor : Stmt := (top 17)
theorem sc_common_divisor : FnScope ["first", "second", "great", "small"] ["first", "second"] (defScope s_common_divisor) := ⟨rfl, rfl, rfl, by decide +kernel, rfl, by decide +kernel, by decide +kernel⟩
abbrev s_check_range : Stmt := (top 40)
theorem sc_check_range : FnScope ["number", "least", "most"] ["number", "least", "most"] (defScope s_check_range) := ⟨rfl, rfl, rfl, by decide +kernel, rfl, by decide +kernel, by decide +kernel⟩
abbrev s_check_plan : Stmt := (top 41)
theorem sc_check_plan : FnScope ["plan"] ["plan"] (defScope s_check_plan) := ⟨rfl, rfl, rfl, by decide +kernel, rfl, by decide +kernel, by decide +kernel⟩
abbrev s_check_size : Stmt := (top 42)
theorem sc_check_size : FnScope ["size", "least"] ["size", "least"] (defScope s_check_size) := ⟨rfl, rfl, rfl, by decide +kernel, rfl, by decide +kernel, by decide +kernel⟩
abbrev s_check_marked : Stmt := (top 43)
theorem sc_check_marked : FnScope ["marked", "size"] ["marked", "size"] (defScope s_check_marked) := ⟨rfl, rfl, rfl, by decide +kernel, rfl, by decide +kernel, by decide +kernel⟩
abbrev s_check_table : Stmt := (top 44)
theorem sc_check_table : FnScope ["plan", "size", "marked"] ["plan", "size", "marked"] (defScope s_check_table) := ⟨rfl, rfl, rfl, by decide +kernel, rfl, by decide +kernel, by decide +kernel⟩
abbrev s_Ratio__init : Stmt := (inClass (top 38) 0)
theorem sc_Ratio__init : FnScope ["self", "top", "bottom", "divisor"] ["self", "top", "bottom"] (defScope s_Ratio__init) := ⟨rfl, rfl, rfl, by decide +kernel, rfl, by decide +kernel, by decide +kernel⟩
abbrev s_is_entered : Stmt := (top 24)
theorem sc_is_entered : FnScope ["before", "found"] ["before", "found"] (defScope s_is_entered) := ⟨rfl, rfl, rfl, by decide +kernel, rfl, by decide +kernel, by decide +kernel⟩
abbrev s_is_row : Stmt := (top 25)
theorem sc_is_row : FnScope ["row", "before", "found"] ["row", "before"] (defScope s_is_row) := ⟨rfl, rfl, rfl, by decide +kernel, rfl, by decide +kernel, by decide +kernel⟩
abbrev s_check_rows : Stmt := (top 26)
theorem sc_check_rows : FnScope ["rows", "index", "last", "many", "number"] ["rows"] (defScope s_check_rows) := ⟨rfl, rfl, rfl, by decide +kernel, rfl, by decide +kernel, by decide +kernel⟩
abbrev s_count_classes : Stmt := (top 27)
theorem sc_count_classes : FnScope ["rows", "signs", "number"] ["rows"] (defScope s_count_classes) := ⟨rfl, rfl, rfl, by decide +kernel, rfl, by decide +kernel, by decide +kernel⟩
abbrev s_ways_of : Stmt := (top 28)
theorem sc_ways_of : FnScope ["rows", "table", "looked", "before", "counts", "found", "many"] ["rows"] (defScope s_ways_of) := ⟨rfl, rfl, rfl, by decide +kernel, rfl, by decide +kernel, by decide +kernel⟩
abbrev s_stops_of : Stmt := (top 29)
theorem sc_stops_of : FnScope ["rows", "table", "stops", "looked", "found", "sign"] ["rows"] (defScope s_stops_of) := ⟨rfl, rfl, rfl, by decide +kernel, rfl, by decide +kernel, by decide +kernel⟩
abbrev s_leads_of : Stmt := (top 30)
theorem sc_leads_of : FnScope ["rows", "table", "row", "below", "entries", "found", "near", "far", "number"] ["rows"] (defScope s_leads_of) := ⟨rfl, rfl, rfl, by decide +kernel, rfl, by decide +kernel, by decide +kernel⟩
abbrev s_find_sinking : Stmt := (top 33)
theorem sc_find_sinking : FnScope ["rows", "table", "looked", "found", "below", "low", "high", "tail", "marks", "spare", "place"] ["rows"] (defScope s_find_sinking) := ⟨rfl, rfl, rfl, by decide +kernel, rfl, by decide +kernel, by decide +kernel⟩
abbrev s_Plan__init : Stmt := (inClass (top 36) 0)
theorem sc_Plan__init : FnScope ["self", "rows", "sinking"] ["self", "rows"] (defScope s_Plan__init) := ⟨rfl, rfl, rfl, by decide +kernel, rfl, by decide +kernel, by decide +kernel⟩
abbrev s_Plan_read : Stmt := (inClass (top 36) 1)
theorem sc_Plan_read : FnScope ["cls", "text", "rows", "found"] ["cls", "text"] (defScope s_Plan_read) := ⟨rfl, rfl, rfl, by decide +kernel, rfl, by decide +kernel, by decide +kernel⟩
abbrev s_product_down : Stmt := (top 46)
theorem sc_product_down : FnScope ["top", "times", "product", "step"] ["top", "times"] (defScope s_product_down) := ⟨rfl, rfl, rfl, by decide +kernel, rfl, by decide +kernel, by decide +kernel⟩
abbrev s_stop_draws : Stmt := (top 47)
theorem sc_stop_draws : FnScope ["stop", "longest", "size", "marked", "looked", "found", "ways", "rest"] ["stop", "longest", "size", "marked"] (defScope s_stop_draws) := ⟨rfl, rfl, rfl, by decide +kernel, rfl, by decide +kernel, by decide +kernel⟩
abbrev s_count_stops : Stmt := (top 48)
theorem sc_count_stops : FnScope ["stops", "longest", "size", "marked", "stop"] ["stops", "longest", "size", "marked"] (defScope s_count_stops) := ⟨rfl, rfl, rfl, by decide +kernel, rfl, by decide +kernel, by decide +kernel⟩
abbrev s_stops_up_to : Stmt := (top 49)
theorem sc_stops_up_to : FnScope ["plan", "number", "stop"] ["plan", "number"] (defScope s_stops_up_to) := ⟨rfl, rfl, rfl, by decide +kernel, rfl, by decide +kernel, by decide +kernel⟩
abbrev s_draws : Stmt := (top 50)
theorem sc_draws : FnScope ["plan", "size"] ["plan", "size"] (defScope s_draws) := ⟨rfl, rfl, rfl, by decide +kernel, rfl, by decide +kernel, by decide +kernel⟩
abbrev s_class_counts : Stmt := (top 51)
theorem sc_class_counts : FnScope ["plan", "size", "marked", "counts", "stop", "number"] ["plan", "size", "marked"] (defScope s_class_counts) := ⟨rfl, rfl, rfl, by decide +kernel, rfl, by decide +kernel, by decide +kernel⟩
abbrev s_up_to : Stmt := (top 52)
theorem sc_up_to : FnScope ["plan", "number", "size", "marked"] ["plan", "number", "size", "marked"] (defScope s_up_to) := ⟨rfl, rfl, rfl, by decide +kernel, rfl, by decide +kernel, by decide +kernel⟩
abbrev s_mean_looked : Stmt := (top 53)
theorem sc_mean_looked : FnScope ["plan", "size", "marked", "total", "stop"] ["plan", "size", "marked"] (defScope s_mean_looked) := ⟨rfl, rfl, rfl, by decide +kernel, rfl, by decide +kernel, by decide +kernel⟩
abbrev s_InvalidNumber__init : Stmt := (inClass (top 3) 0)
abbrev s_InvalidSize__init : Stmt := (inClass (top 8) 0)
abbrev s_InvalidMarked__init : Stmt := (inClass (top 9) 0)
abbrev s_NotAPlan__init : Stmt := (inClass (top 11) 0)
abbrev s_law_cell : Stmt := (top 55)
theorem sc_law_cell : FnScope ["_law_script", "_law_k", "_law_total", "_law_cell_here"] ["_law_script", "_law_k"] (defScope s_law_cell) := ⟨rfl, rfl, rfl, by decide +kernel, rfl, by decide +kernel, by decide +kernel⟩
abbrev s_law_bag : Stmt := (top 56)
theorem sc_law_bag : FnScope ["_law_cell_here", "_law_great"] ["_law_cell_here"] (defScope s_law_bag) := ⟨rfl, rfl, rfl, by decide +kernel, rfl, by decide +kernel, by decide +kernel⟩
abbrev s_law_take : Stmt := (top 57)
theorem sc_law_take : FnScope ["_law_bag_here", "_law_many_here", "_law_old", "_law_digit"] ["_law_bag_here", "_law_many_here"] (defScope s_law_take) := ⟨rfl, rfl, rfl, by decide +kernel, rfl, by decide +kernel, by decide +kernel⟩
abbrev s_law_int : Stmt := (top 59)
theorem sc_law_int : FnScope ["_law_thing"] ["_law_thing"] (defScope s_law_int) := ⟨rfl, rfl, rfl, by decide +kernel, rfl, by decide +kernel, by decide +kernel⟩
abbrev s_law_rows : Stmt := (top 61)
theorem sc_law_rows : FnScope ["_law_bag_here", "_law_tall", "_law_most", "_law_told", "_law_low", "_law_high", "_law_least", "_law_top", "_law_m", "_law_first", "_law_last", "_law_cells", "_law_now", "_law_k", "_law_few", "_law_many_here", "_law_used", "_law_names", "_law_sign", "_law_row"] ["_law_bag_here", "_law_tall", "_law_most"] (defScope s_law_rows) := ⟨rfl, rfl, rfl, by decide +kernel, rfl, by decide +kernel, by decide +kernel⟩
abbrev s_law_many : Stmt := (top 62)
theorem sc_law_many : FnScope ["_law_told", "_law_sign"] ["_law_told"] (defScope s_law_many) := ⟨rfl, rfl, rfl, by decide +kernel, rfl, by decide +kernel, by decide +kernel⟩
abbrev s_law_run : Stmt := (top 63)
theorem sc_law_run : FnScope ["_law_told", "_law_marks", "_law_k", "_law_m"] ["_law_told", "_law_marks"] (defScope s_law_run) := ⟨rfl, rfl, rfl, by decide +kernel, rfl, by decide +kernel, by decide +kernel⟩
abbrev s_law_right : Stmt := (top 65)
theorem sc_law_right : FnScope ["_law_bag_here", "_law_tall", "_law_told", "_law_scheme", "_law_wide", "_law_rows_left", "_law_chosen", "_law_step", "_law_every", "_law_counts", "_law_looked", "_law_one", "_law_part", "_law_seen", "_law_ones", "_law_told_counts", "_law_sums", "_law_mean", "_law_row", "_law_count", "_law_k"] ["_law_bag_here"] (defScope s_law_right) := ⟨rfl, rfl, rfl, by decide +kernel, rfl, by decide +kernel, by decide +kernel⟩
abbrev s_law : Stmt := (top 66)
theorem sc_law : FnScope ["_law_script", "_law_k"] ["_law_script"] (defScope s_law) := ⟨rfl, rfl, rfl, by decide +kernel, rfl, by decide +kernel, by decide +kernel⟩
abbrev s_law_all_draws : Stmt := (top 64)
theorem sc_law_all_draws : FnScope ["_law_wide", "_law_tall", "_law_found", "_law_step", "_law_more", "_law_one", "_law_row"] ["_law_wide", "_law_tall"] (defScope s_law_all_draws) := ⟨rfl, rfl, rfl, by decide +kernel, rfl, by decide +kernel, by decide +kernel⟩
def d_is_integer : Hk.DefE := ⟨fun K => He.ga K "is_integer", "is_integer", "is_integer", defArgs s_is_integer, defBody s_is_integer, defScope s_is_integer, [], []⟩
def d_common_divisor : Hk.DefE := ⟨fun K => He.ga K "common_divisor", "common_divisor", "common_divisor", defArgs s_common_divisor, defBody s_common_divisor, defScope s_common_divisor, [], []⟩
def d_check_range : Hk.DefE := ⟨fun K => He.ga K "check_range", "check_range", "check_range", defArgs s_check_range, defBody s_check_range, defScope s_check_range, [], []⟩
def d_check_plan : Hk.DefE := ⟨fun K => He.ga K "check_plan", "check_plan", "check_plan", defArgs s_check_plan, defBody s_check_plan, defScope s_check_plan, [], []⟩
def d_check_size : Hk.DefE := ⟨fun K => He.ga K "check_size", "check_size", "check_size", defArgs s_check_size, defBody s_check_size, defScope s_check_size, [], []⟩
def d_check_marked : Hk.DefE := ⟨fun K => He.ga K "check_marked", "check_marked", "check_marked", defArgs s_check_marked, defBody s_check_marked, defScope s_check_marked, [], []⟩
def d_check_table : Hk.DefE := ⟨fun K => He.ga K "check_table", "check_table", "check_table", defArgs s_check_table, defBody s_check_table, defScope s_check_table, [], []⟩
def d_Ratio__init : Hk.DefE := ⟨fun K => He.ma K (He.ga K "Ratio") "__init__", "__init__", "Ratio.__init__", defArgs s_Ratio__init, defBody s_Ratio__init, defScope s_Ratio__init, [.int 1], []⟩
def d_is_entered : Hk.DefE := ⟨fun K => He.ga K "is_entered", "is_entered", "is_entered", defArgs s_is_entered, defBody s_is_entered, defScope s_is_entered, [], []⟩
def d_is_row : Hk.DefE := ⟨fun K => He.ga K "is_row", "is_row", "is_row", defArgs s_is_row, defBody s_is_row, defScope s_is_row, [], []⟩
def d_check_rows : Hk.DefE := ⟨fun K => He.ga K "check_rows", "check_rows", "check_rows", defArgs s_check_rows, defBody s_check_rows, defScope s_check_rows, [], []⟩
def d_count_classes : Hk.DefE := ⟨fun K => He.ga K "count_classes", "count_classes", "count_classes", defArgs s_count_classes, defBody s_count_classes, defScope s_count_classes, [], []⟩
def d_ways_of : Hk.DefE := ⟨fun K => He.ga K "ways_of", "ways_of", "ways_of", defArgs s_ways_of, defBody s_ways_of, defScope s_ways_of, [], []⟩
def d_stops_of : Hk.DefE := ⟨fun K => He.ga K "stops_of", "stops_of", "stops_of", defArgs s_stops_of, defBody s_stops_of, defScope s_stops_of, [], []⟩
def d_leads_of : Hk.DefE := ⟨fun K => He.ga K "leads_of", "leads_of", "leads_of", defArgs s_leads_of, defBody s_leads_of, defScope s_leads_of, [], []⟩
def d_find_sinking : Hk.DefE := ⟨fun K => He.ga K "find_sinking", "find_sinking", "find_sinking", defArgs s_find_sinking, defBody s_find_sinking, defScope s_find_sinking, [], []⟩
def d_Plan__init : Hk.DefE := ⟨fun K => He.ma K (He.ga K "Plan") "__init__", "__init__", "Plan.__init__", defArgs s_Plan__init, defBody s_Plan__init, defScope s_Plan__init, [], []⟩
def d_Plan_read : Hk.DefE := ⟨Hk.wfA "Plan" "classmethod" "read", "read", "Plan.read", defArgs s_Plan_read, defBody s_Plan_read, defScope s_Plan_read, [], []⟩
def d_product_down : Hk.DefE := ⟨fun K => He.ga K "product_down", "product_down", "product_down", defArgs s_product_down, defBody s_product_down, defScope s_product_down, [], []⟩
def d_stop_draws : Hk.DefE := ⟨fun K => He.ga K "stop_draws", "stop_draws", "stop_draws", defArgs s_stop_draws, defBody s_stop_draws, defScope s_stop_draws, [], []⟩
def d_count_stops : Hk.DefE := ⟨fun K => He.ga K "count_stops", "count_stops", "count_stops", defArgs s_count_stops, defBody s_count_stops, defScope s_count_stops, [], []⟩
def d_stops_up_to : Hk.DefE := ⟨fun K => He.ga K "stops_up_to", "stops_up_to", "stops_up_to", defArgs s_stops_up_to, defBody s_stops_up_to, defScope s_stops_up_to, [], []⟩
def d_draws : Hk.DefE := ⟨fun K => He.ga K "draws", "draws", "draws", defArgs s_draws, defBody s_draws, defScope s_draws, [], []⟩
def d_class_counts : Hk.DefE := ⟨fun K => He.ga K "class_counts", "class_counts", "class_counts", defArgs s_class_counts, defBody s_class_counts, defScope s_class_counts, [], []⟩
def d_up_to : Hk.DefE := ⟨fun K => He.ga K "up_to", "up_to", "up_to", defArgs s_up_to, defBody s_up_to, defScope s_up_to, [], []⟩
def d_mean_looked : Hk.DefE := ⟨fun K => He.ga K "mean_looked", "mean_looked", "mean_looked", defArgs s_mean_looked, defBody s_mean_looked, defScope s_mean_looked, [], []⟩
def d_InvalidNumber__init : Hk.DefE := ⟨fun K => He.ma K (He.ga K "InvalidNumber") "__init__", "__init__", "InvalidNumber.__init__", defArgs s_InvalidNumber__init, defBody s_InvalidNumber__init, defScope s_InvalidNumber__init, [], []⟩
def d_InvalidSize__init : Hk.DefE := ⟨fun K => He.ma K (He.ga K "InvalidSize") "__init__", "__init__", "InvalidSize.__init__", defArgs s_InvalidSize__init, defBody s_InvalidSize__init, defScope s_InvalidSize__init, [], []⟩
def d_InvalidMarked__init : Hk.DefE := ⟨fun K => He.ma K (He.ga K "InvalidMarked") "__init__", "__init__", "InvalidMarked.__init__", defArgs s_InvalidMarked__init, defBody s_InvalidMarked__init, defScope s_InvalidMarked__init, [], []⟩
def d_NotAPlan__init : Hk.DefE := ⟨fun K => He.ma K (He.ga K "NotAPlan") "__init__", "__init__", "NotAPlan.__init__", defArgs s_NotAPlan__init, defBody s_NotAPlan__init, defScope s_NotAPlan__init, [], []⟩
def d_law_cell : Hk.DefE := ⟨fun K => He.ga K "_law_cell", "_law_cell", "_law_cell", defArgs s_law_cell, defBody s_law_cell, defScope s_law_cell, [], []⟩
def d_law_bag : Hk.DefE := ⟨fun K => He.ga K "_law_bag", "_law_bag", "_law_bag", defArgs s_law_bag, defBody s_law_bag, defScope s_law_bag, [], []⟩
def d_law_take : Hk.DefE := ⟨fun K => He.ga K "_law_take", "_law_take", "_law_take", defArgs s_law_take, defBody s_law_take, defScope s_law_take, [], []⟩
def d_law_int : Hk.DefE := ⟨fun K => He.ga K "_law_int", "_law_int", "_law_int", defArgs s_law_int, defBody s_law_int, defScope s_law_int, [], []⟩
def d_law_rows : Hk.DefE := ⟨fun K => He.ga K "_law_rows", "_law_rows", "_law_rows", defArgs s_law_rows, defBody s_law_rows, defScope s_law_rows, [], []⟩
def d_law_many : Hk.DefE := ⟨fun K => He.ga K "_law_many", "_law_many", "_law_many", defArgs s_law_many, defBody s_law_many, defScope s_law_many, [], []⟩
def d_law_run : Hk.DefE := ⟨fun K => He.ga K "_law_run", "_law_run", "_law_run", defArgs s_law_run, defBody s_law_run, defScope s_law_run, [], []⟩
def d_law_right : Hk.DefE := ⟨fun K => He.ga K "_law_right", "_law_right", "_law_right", defArgs s_law_right, defBody s_law_right, defScope s_law_right, [], []⟩
def d_law : Hk.DefE := ⟨fun K => He.ga K "law", "law", "law", defArgs s_law, defBody s_law, defScope s_law, [], []⟩
def d_law_all_draws : Hk.DefE := ⟨fun K => He.ga K "_law_all_draws", "_law_all_draws", "_law_all_draws", defArgs s_law_all_draws, defBody s_law_all_draws, defScope s_law_all_draws, [], []⟩
def fn : List Hk.DefE := [d_is_integer, d_common_divisor, d_check_range, d_check_plan, d_check_size, d_check_marked, d_check_table, d_Ratio__init, d_is_entered, d_is_row, d_check_rows, d_count_classes, d_ways_of, d_stops_of, d_leads_of, d_find_sinking, d_Plan__init, d_Plan_read, d_product_down, d_stop_draws, d_count_stops, d_stops_up_to, d_draws, d_class_counts, d_up_to, d_mean_looked, d_InvalidNumber__init, d_InvalidSize__init, d_InvalidMarked__init, d_NotAPlan__init, d_law_cell, d_law_bag, d_law_take, d_law_int, d_law_rows, d_law_many, d_law_run, d_law_right, d_law, d_law_all_draws]
def fa : List He.Fa := [.glo "is_integer", .glo "common_divisor", .glo "check_range", .glo "check_plan", .glo "check_size", .glo "check_marked", .glo "check_table", .glo "is_entered", .glo "is_row", .glo "check_rows", .glo "count_classes", .glo "ways_of", .glo "stops_of", .glo "leads_of", .glo "find_sinking", .glo "product_down", .glo "stop_draws", .glo "count_stops", .glo "stops_up_to", .glo "draws", .glo "class_counts", .glo "up_to", .glo "mean_looked", .glo "_law_cell", .glo "_law_bag", .glo "_law_take", .glo "_law_int", .glo "_law_rows", .glo "_law_many", .glo "_law_run", .glo "_law_right", .glo "law", .glo "_law_all_draws", .free "isinstance", .free "int", .free "bool", .free "str", .free "abs", .free "len", .free "range", .free "max", .free "min", .free "repr", .free "list", .free "tuple", .free "all", .free "sorted", .free "sum", .free "divmod", .int "CLASSES" 8, .int "LONGEST" 20, .int "SIZE" 1000000000000000000000000000000000000000000000000000000000000000000000000000000000000000000000000000000000000000000000000000000000000000000000000000000, .str "SIGNS" "-01234567", .glo "Ratio", .cls "Ratio", .noat "Ratio" "top", .noat "Ratio" "bottom", .mkr "Ratio", .glo "Plan", .cls "Plan", .noat "Plan" "rows", .noat "Plan" "longest", .noat "Plan" "classes", .mkr "Plan", .glo "InvalidNumber", .glo "InvalidSize", .glo "InvalidMarked", .glo "NotAPlan", .glo "InputError", .glo "LimitError", .glo "InvalidRows", .glo "NotRising"]
def exs (K : PySem.W.Frag) : List Bool := [crB K "Plan", cmB K "Plan" "read", insB K "Plan", errB K "InvalidNumber", noB K "InvalidNumber" "number", errB K "InvalidSize", noB K "InvalidSize" "value", errB K "InvalidMarked", noB K "InvalidMarked" "value", errB K "NotAPlan", noB K "NotAPlan" "value", isiB K (.type "NoneType") (.type "int") false, isiB K (.type "bool") (.type "int") true, isiB K (.type "int") (.type "int") true, isiB K (.type "str") (.type "int") false, isiB K (.type "tuple") (.type "int") false, isiB K (.type "list") (.type "int") false, isiB K (.type "dict") (.type "int") false, isiB K (.type "int") (.type "bool") false, isiB K (.type "bool") (.type "bool") true, isiB K (.type "str") (.type "str") true, isiB K (.ref (He.ga K "Plan")) (.ref (He.ga K "Plan")) true, isiB K (.type "tuple") (.type "tuple") true]
def ex (K : PySem.W.Frag) : Bool := (exs K).all id
theorem ex_at {K : PySem.W.Frag} (c : Hk.SaysE fa fn ex K) (i : Nat) {b : Bool} (h : (exs K)[i]? = some b) : b = true := List.all_eq_true.mp c.more b (List.mem_of_getElem? h)
/-- what the top has written -/
structure Tx (K : PySem.W.Frag) (mg : Str → Option Value) : Prop where
  d_is_integer : ∃ fd, FunD K "is_integer" "is_integer" (defArgs s_is_integer) (defBody s_is_integer) (defScope s_is_integer) (d_is_integer.dvs K) (d_is_integer.kws K) (d_is_integer.adr K) fd
  g_is_integer : mg "is_integer" = some (.ref (He.ga K "is_integer"))
  d_common_divisor : ∃ fd, FunD K "common_divisor" "common_divisor" (defArgs s_common_divisor) (defBody s_common_divisor) (defScope s_common_divisor) (d_common_divisor.dvs K) (d_common_divisor.kws K) (d_common_divisor.adr K) fd
  g_common_divisor : mg "common_divisor" = some (.ref (He.ga K "common_divisor"))
  d_check_range : ∃ fd, FunD K "check_range" "check_range" (defArgs s_check_range) (defBody s_check_range) (defScope s_check_range) (d_check_range.dvs K) (d_check_range.kws K) (d_check_range.adr K) fd
  g_check_range : mg "check_range" = some (.ref (He.ga K "check_range"))
  d_check_plan : ∃ fd, FunD K "check_plan" "check_plan" (defArgs s_check_plan) (defBody s_check_plan) (defScope s_check_plan) (d_check_plan.dvs K) (d_check_plan.kws K) (d_check_plan.adr K) fd
  g_check_plan : mg "check_plan" = some (.ref (He.ga K "check_plan"))
  d_check_size : ∃ fd, FunD K "check_size" "check_size" (defArgs s_check_size) (defBody s_check_size) (defScope s_check_size) (d_check_size.dvs K) (d_check_size.kws K) (d_check_size.adr K) fd
  g_check_size : mg "check_size" = some (.ref (He.ga K "check_size"))
  d_check_marked : ∃ fd, FunD K "check_marked" "check_marked" (defArgs s_check_marked) (defBody s_check_marked) (defScope s_check_marked) (d_check_marked.dvs K) (d_check_marked.kws K) (d_check_marked.adr K) fd
  g_check_marked : mg "check_marked" = some (.ref (He.ga K "check_marked"))
  d_check_table : ∃ fd, FunD K "check_table" "check_table" (defArgs s_check_table) (defBody s_check_table) (defScope s_check_table) (d_check_table.dvs K) (d_check_table.kws K) (d_check_table.adr K) fd
  g_check_table : mg "check_table" = some (.ref (He.ga K "check_table"))
  d_Ratio__init : ∃ fd, FunD K "__init__" "Ratio.__init__" (defArgs s_Ratio__init) (defBody s_Ratio__init) (defScope s_Ratio__init) (d_Ratio__init.dvs K) (d_Ratio__init.kws K) (d_Ratio__init.adr K) fd
  d_is_entered : ∃ fd, FunD K "is_entered" "is_entered" (defArgs s_is_entered) (defBody s_is_entered) (defScope s_is_entered) (d_is_entered.dvs K) (d_is_entered.kws K) (d_is_entered.adr K) fd
  g_is_entered : mg "is_entered" = some (.ref (He.ga K "is_entered"))
  d_is_row : ∃ fd, FunD K "is_row" "is_row" (defArgs s_is_row) (defBody s_is_row) (defScope s_is_row) (d_is_row.dvs K) (d_is_row.kws K) (d_is_row.adr K) fd
  g_is_row : mg "is_row" = some (.ref (He.ga K "is_row"))
  d_check_rows : ∃ fd, FunD K "check_rows" "check_rows" (defArgs s_check_rows) (defBody s_check_rows) (defScope s_check_rows) (d_check_rows.dvs K) (d_check_rows.kws K) (d_check_rows.adr K) fd
  g_check_rows : mg "check_rows" = some (.ref (He.ga K "check_rows"))
  d_count_classes : ∃ fd, FunD K "count_classes" "count_classes" (defArgs s_count_classes) (defBody s_count_classes) (defScope s_count_classes) (d_count_classes.dvs K) (d_count_classes.kws K) (d_count_classes.adr K) fd
  g_count_classes : mg "count_classes" = some (.ref (He.ga K "count_classes"))
  d_ways_of : ∃ fd, FunD K "ways_of" "ways_of" (defArgs s_ways_of) (defBody s_ways_of) (defScope s_ways_of) (d_ways_of.dvs K) (d_ways_of.kws K) (d_ways_of.adr K) fd
  g_ways_of : mg "ways_of" = some (.ref (He.ga K "ways_of"))
  d_stops_of : ∃ fd, FunD K "stops_of" "stops_of" (defArgs s_stops_of) (defBody s_stops_of) (defScope s_stops_of) (d_stops_of.dvs K) (d_stops_of.kws K) (d_stops_of.adr K) fd
  g_stops_of : mg "stops_of" = some (.ref (He.ga K "stops_of"))
  d_leads_of : ∃ fd, FunD K "leads_of" "leads_of" (defArgs s_leads_of) (defBody s_leads_of) (defScope s_leads_of) (d_leads_of.dvs K) (d_leads_of.kws K) (d_leads_of.adr K) fd
  g_leads_of : mg "leads_of" = some (.ref (He.ga K "leads_of"))
  d_find_sinking : ∃ fd, FunD K "find_sinking" "find_sinking" (defArgs s_find_sinking) (defBody s_find_sinking) (defScope s_find_sinking) (d_find_sinking.dvs K) (d_find_sinking.kws K) (d_find_sinking.adr K) fd
  g_find_sinking : mg "find_sinking" = some (.ref (He.ga K "find_sinking"))
  d_Plan__init : ∃ fd, FunD K "__init__" "Plan.__init__" (defArgs s_Plan__init) (defBody s_Plan__init) (defScope s_Plan__init) (d_Plan__init.dvs K) (d_Plan__init.kws K) (d_Plan__init.adr K) fd
  d_Plan_read : ∃ fd, FunD K "read" "Plan.read" (defArgs s_Plan_read) (defBody s_Plan_read) (defScope s_Plan_read) (d_Plan_read.dvs K) (d_Plan_read.kws K) (d_Plan_read.adr K) fd
  d_product_down : ∃ fd, FunD K "product_down" "product_down" (defArgs s_product_down) (defBody s_product_down) (defScope s_product_down) (d_product_down.dvs K) (d_product_down.kws K) (d_product_down.adr K) fd
  g_product_down : mg "product_down" = some (.ref (He.ga K "product_down"))
  d_stop_draws : ∃ fd, FunD K "stop_draws" "stop_draws" (defArgs s_stop_draws) (defBody s_stop_draws) (defScope s_stop_draws) (d_stop_draws.dvs K) (d_stop_draws.kws K) (d_stop_draws.adr K) fd
  g_stop_draws : mg "stop_draws" = some (.ref (He.ga K "stop_draws"))
  d_count_stops : ∃ fd, FunD K "count_stops" "count_stops" (defArgs s_count_stops) (defBody s_count_stops) (defScope s_count_stops) (d_count_stops.dvs K) (d_count_stops.kws K) (d_count_stops.adr K) fd
  g_count_stops : mg "count_stops" = some (.ref (He.ga K "count_stops"))
  d_stops_up_to : ∃ fd, FunD K "stops_up_to" "stops_up_to" (defArgs s_stops_up_to) (defBody s_stops_up_to) (defScope s_stops_up_to) (d_stops_up_to.dvs K) (d_stops_up_to.kws K) (d_stops_up_to.adr K) fd
  g_stops_up_to : mg "stops_up_to" = some (.ref (He.ga K "stops_up_to"))
  d_draws : ∃ fd, FunD K "draws" "draws" (defArgs s_draws) (defBody s_draws) (defScope s_draws) (d_draws.dvs K) (d_draws.kws K) (d_draws.adr K) fd
  g_draws : mg "draws" = some (.ref (He.ga K "draws"))
  d_class_counts : ∃ fd, FunD K "class_counts" "class_counts" (defArgs s_class_counts) (defBody s_class_counts) (defScope s_class_counts) (d_class_counts.dvs K) (d_class_counts.kws K) (d_class_counts.adr K) fd
  g_class_counts : mg "class_counts" = some (.ref (He.ga K "class_counts"))
  d_up_to : ∃ fd, FunD K "up_to" "up_to" (defArgs s_up_to) (defBody s_up_to) (defScope s_up_to) (d_up_to.dvs K) (d_up_to.kws K) (d_up_to.adr K) fd
  g_up_to : mg "up_to" = some (.ref (He.ga K "up_to"))
  d_mean_looked : ∃ fd, FunD K "mean_looked" "mean_looked" (defArgs s_mean_looked) (defBody s_mean_looked) (defScope s_mean_looked) (d_mean_looked.dvs K) (d_mean_looked.kws K) (d_mean_looked.adr K) fd
  g_mean_looked : mg "mean_looked" = some (.ref (He.ga K "mean_looked"))
  d_InvalidNumber__init : ∃ fd, FunD K "__init__" "InvalidNumber.__init__" (defArgs s_InvalidNumber__init) (defBody s_InvalidNumber__init) (defScope s_InvalidNumber__init) (d_InvalidNumber__init.dvs K) (d_InvalidNumber__init.kws K) (d_InvalidNumber__init.adr K) fd
  d_InvalidSize__init : ∃ fd, FunD K "__init__" "InvalidSize.__init__" (defArgs s_InvalidSize__init) (defBody s_InvalidSize__init) (defScope s_InvalidSize__init) (d_InvalidSize__init.dvs K) (d_InvalidSize__init.kws K) (d_InvalidSize__init.adr K) fd
  d_InvalidMarked__init : ∃ fd, FunD K "__init__" "InvalidMarked.__init__" (defArgs s_InvalidMarked__init) (defBody s_InvalidMarked__init) (defScope s_InvalidMarked__init) (d_InvalidMarked__init.dvs K) (d_InvalidMarked__init.kws K) (d_InvalidMarked__init.adr K) fd
  d_NotAPlan__init : ∃ fd, FunD K "__init__" "NotAPlan.__init__" (defArgs s_NotAPlan__init) (defBody s_NotAPlan__init) (defScope s_NotAPlan__init) (d_NotAPlan__init.dvs K) (d_NotAPlan__init.kws K) (d_NotAPlan__init.adr K) fd
  d_law_cell : ∃ fd, FunD K "_law_cell" "_law_cell" (defArgs s_law_cell) (defBody s_law_cell) (defScope s_law_cell) (d_law_cell.dvs K) (d_law_cell.kws K) (d_law_cell.adr K) fd
  g_law_cell : mg "_law_cell" = some (.ref (He.ga K "_law_cell"))
  d_law_bag : ∃ fd, FunD K "_law_bag" "_law_bag" (defArgs s_law_bag) (defBody s_law_bag) (defScope s_law_bag) (d_law_bag.dvs K) (d_law_bag.kws K) (d_law_bag.adr K) fd
  g_law_bag : mg "_law_bag" = some (.ref (He.ga K "_law_bag"))
  d_law_take : ∃ fd, FunD K "_law_take" "_law_take" (defArgs s_law_take) (defBody s_law_take) (defScope s_law_take) (d_law_take.dvs K) (d_law_take.kws K) (d_law_take.adr K) fd
  g_law_take : mg "_law_take" = some (.ref (He.ga K "_law_take"))
  d_law_int : ∃ fd, FunD K "_law_int" "_law_int" (defArgs s_law_int) (defBody s_law_int) (defScope s_law_int) (d_law_int.dvs K) (d_law_int.kws K) (d_law_int.adr K) fd
  g_law_int : mg "_law_int" = some (.ref (He.ga K "_law_int"))
  d_law_rows : ∃ fd, FunD K "_law_rows" "_law_rows" (defArgs s_law_rows) (defBody s_law_rows) (defScope s_law_rows) (d_law_rows.dvs K) (d_law_rows.kws K) (d_law_rows.adr K) fd
  g_law_rows : mg "_law_rows" = some (.ref (He.ga K "_law_rows"))
  d_law_many : ∃ fd, FunD K "_law_many" "_law_many" (defArgs s_law_many) (defBody s_law_many) (defScope s_law_many) (d_law_many.dvs K) (d_law_many.kws K) (d_law_many.adr K) fd
  g_law_many : mg "_law_many" = some (.ref (He.ga K "_law_many"))
  d_law_run : ∃ fd, FunD K "_law_run" "_law_run" (defArgs s_law_run) (defBody s_law_run) (defScope s_law_run) (d_law_run.dvs K) (d_law_run.kws K) (d_law_run.adr K) fd
  g_law_run : mg "_law_run" = some (.ref (He.ga K "_law_run"))
  d_law_right : ∃ fd, FunD K "_law_right" "_law_right" (defArgs s_law_right) (defBody s_law_right) (defScope s_law_right) (d_law_right.dvs K) (d_law_right.kws K) (d_law_right.adr K) fd
  g_law_right : mg "_law_right" = some (.ref (He.ga K "_law_right"))
  d_law : ∃ fd, FunD K "law" "law" (defArgs s_law) (defBody s_law) (defScope s_law) (d_law.dvs K) (d_law.kws K) (d_law.adr K) fd
  g_law : mg "law" = some (.ref (He.ga K "law"))
  d_law_all_draws : ∃ fd, FunD K "_law_all_draws" "_law_all_draws" (defArgs s_law_all_draws) (defBody s_law_all_draws) (defScope s_law_all_draws) (d_law_all_draws.dvs K) (d_law_all_draws.kws K) (d_law_all_draws.adr K) fd
  g_law_all_draws : mg "_law_all_draws" = some (.ref (He.ga K "_law_all_draws"))
  f_isinstance : mg "isinstance" = none
  f_int : mg "int" = none
  f_bool : mg "bool" = none
  f_str : mg "str" = none
  f_abs : mg "abs" = none
  f_len : mg "len" = none
  f_range : mg "range" = none
  f_max : mg "max" = none
  f_min : mg "min" = none
  f_repr : mg "repr" = none
  f_list : mg "list" = none
  f_tuple : mg "tuple" = none
  f_all : mg "all" = none
  f_sorted : mg "sorted" = none
  f_sum : mg "sum" = none
  f_divmod : mg "divmod" = none
  c_CLASSES : ∃ t, mg "CLASSES" = some (.int 8 t)
  c_LONGEST : ∃ t, mg "LONGEST" = some (.int 20 t)
  c_SIZE : ∃ t, mg "SIZE" = some (.int 1000000000000000000000000000000000000000000000000000000000000000000000000000000000000000000000000000000000000000000000000000000000000000000000000000000 t)
  c_SIGNS : ∃ t, mg "SIGNS" = some (.str "-01234567" t)
  g_Ratio : mg "Ratio" = some (.ref (He.ga K "Ratio"))
  cl_Ratio : Cls K (He.ga K "Ratio")
  n_Ratio_top : NoAttr K (He.ga K "Ratio") "top"
  n_Ratio_bottom : NoAttr K (He.ga K "Ratio") "bottom"
  mk_Ratio : Mg K (He.ga K "Ratio") (He.ma K (He.ga K "Ratio") "__init__")
  g_Plan : mg "Plan" = some (.ref (He.ga K "Plan"))
  cl_Plan : Cls K (He.ga K "Plan")
  n_Plan_rows : NoAttr K (He.ga K "Plan") "rows"
  n_Plan_longest : NoAttr K (He.ga K "Plan") "longest"
  n_Plan_classes : NoAttr K (He.ga K "Plan") "classes"
  mk_Plan : Mg K (He.ga K "Plan") (He.ma K (He.ga K "Plan") "__init__")
  cr_Plan : ClX.CRead K (He.ga K "Plan") (.type "type")
  cm_Plan_read : ClX.CMet K (He.ga K "Plan") (.type "type") "read" (He.ma K (He.ga K "Plan") "read") (Hk.wfA "Plan" "classmethod" "read" K)
  in_Plan : InsOk K (He.ga K "Plan")
  g_InvalidNumber : mg "InvalidNumber" = some (.ref (He.ga K "InvalidNumber"))
  er_InvalidNumber : ErrOk K (He.ga K "InvalidNumber") (He.ma K (He.ga K "InvalidNumber") "__init__")
  no_InvalidNumber : PySem.W.findIn K (.ref (He.ga K "InvalidNumber")) "number" = some none
  g_InvalidSize : mg "InvalidSize" = some (.ref (He.ga K "InvalidSize"))
  er_InvalidSize : ErrOk K (He.ga K "InvalidSize") (He.ma K (He.ga K "InvalidSize") "__init__")
  no_InvalidSize : PySem.W.findIn K (.ref (He.ga K "InvalidSize")) "value" = some none
  g_InvalidMarked : mg "InvalidMarked" = some (.ref (He.ga K "InvalidMarked"))
  er_InvalidMarked : ErrOk K (He.ga K "InvalidMarked") (He.ma K (He.ga K "InvalidMarked") "__init__")
  no_InvalidMarked : PySem.W.findIn K (.ref (He.ga K "InvalidMarked")) "value" = some none
  g_NotAPlan : mg "NotAPlan" = some (.ref (He.ga K "NotAPlan"))
  er_NotAPlan : ErrOk K (He.ga K "NotAPlan") (He.ma K (He.ga K "NotAPlan") "__init__")
  no_NotAPlan : PySem.W.findIn K (.ref (He.ga K "NotAPlan")) "value" = some none
  g_InputError : mg "InputError" = some (.ref (He.ga K "InputError"))
  g_LimitError : mg "LimitError" = some (.ref (He.ga K "LimitError"))
  g_InvalidRows : mg "InvalidRows" = some (.ref (He.ga K "InvalidRows"))
  g_NotRising : mg "NotRising" = some (.ref (He.ga K "NotRising"))
  i_NNoneType : PySem.W.kitOne K (.type "NoneType") (.type "int") = some false
  i_Nbool : PySem.W.kitOne K (.type "bool") (.type "int") = some true
  i_Nint : PySem.W.kitOne K (.type "int") (.type "int") = some true
  i_Nstr : PySem.W.kitOne K (.type "str") (.type "int") = some false
  i_Ntuple : PySem.W.kitOne K (.type "tuple") (.type "int") = some false
  i_Nlist : PySem.W.kitOne K (.type "list") (.type "int") = some false
  i_Ndict : PySem.W.kitOne K (.type "dict") (.type "int") = some false
  i_Bint : PySem.W.kitOne K (.type "int") (.type "bool") = some false
  i_Bbool : PySem.W.kitOne K (.type "bool") (.type "bool") = some true
  i_SS : PySem.W.kitOne K (.type "str") (.type "str") = some true
  i_PP : PySem.W.kitOne K (.ref (He.ga K "Plan")) (.ref (He.ga K "Plan")) = some true
  i_UU : PySem.W.kitOne K (.type "tuple") (.type "tuple") = some true
theorem tx_ok {K : PySem.W.Frag} {h : Heap} {mg : Str → Option Value} (X : K.In h) (G : h.Ns mainGlobals mg) (c : Hk.SaysE fa fn ex K) : Tx K mg where
  d_is_integer := c.def_ 0 rfl
  g_is_integer := He.glo_ok X G (c.fact 0 (f := .glo "is_integer") rfl)
  d_common_divisor := c.def_ 1 rfl
  g_common_divisor := He.glo_ok X G (c.fact 1 (f := .glo "common_divisor") rfl)
  d_check_range := c.def_ 2 rfl
  g_check_range := He.glo_ok X G (c.fact 2 (f := .glo "check_range") rfl)
  d_check_plan := c.def_ 3 rfl
  g_check_plan := He.glo_ok X G (c.fact 3 (f := .glo "check_plan") rfl)
  d_check_size := c.def_ 4 rfl
  g_check_size := He.glo_ok X G (c.fact 4 (f := .glo "check_size") rfl)
  d_check_marked := c.def_ 5 rfl
  g_check_marked := He.glo_ok X G (c.fact 5 (f := .glo "check_marked") rfl)
  d_check_table := c.def_ 6 rfl
  g_check_table := He.glo_ok X G (c.fact 6 (f := .glo "check_table") rfl)
  d_Ratio__init := c.def_ 7 rfl
  d_is_entered := c.def_ 8 rfl
  g_is_entered := He.glo_ok X G (c.fact 7 (f := .glo "is_entered") rfl)
  d_is_row := c.def_ 9 rfl
  g_is_row := He.glo_ok X G (c.fact 8 (f := .glo "is_row") rfl)
  d_check_rows := c.def_ 10 rfl
  g_check_rows := He.glo_ok X G (c.fact 9 (f := .glo "check_rows") rfl)
  d_count_classes := c.def_ 11 rfl
  g_count_classes := He.glo_ok X G (c.fact 10 (f := .glo "count_classes") rfl)
  d_ways_of := c.def_ 12 rfl
  g_ways_of := He.glo_ok X G (c.fact 11 (f := .glo "ways_of") rfl)
  d_stops_of := c.def_ 13 rfl
  g_stops_of := He.glo_ok X G (c.fact 12 (f := .glo "stops_of") rfl)
  d_leads_of := c.def_ 14 rfl
  g_leads_of := He.glo_ok X G (c.fact 13 (f := .glo "leads_of") rfl)
  d_find_sinking := c.def_ 15 rfl
  g_find_sinking := He.glo_ok X G (c.fact 14 (f := .glo "find_sinking") rfl)
  d_Plan__init := c.def_ 16 rfl
  d_Plan_read := c.def_ 17 rfl
  d_product_down := c.def_ 18 rfl
  g_product_down := He.glo_ok X G (c.fact 15 (f := .glo "product_down") rfl)
  d_stop_draws := c.def_ 19 rfl
  g_stop_draws := He.glo_ok X G (c.fact 16 (f := .glo "stop_draws") rfl)
  d_count_stops := c.def_ 20 rfl
  g_count_stops := He.glo_ok X G (c.fact 17 (f := .glo "count_stops") rfl)
  d_stops_up_to := c.def_ 21 rfl
  g_stops_up_to := He.glo_ok X G (c.fact 18 (f := .glo "stops_up_to") rfl)
  d_draws := c.def_ 22 rfl
  g_draws := He.glo_ok X G (c.fact 19 (f := .glo "draws") rfl)
  d_class_counts := c.def_ 23 rfl
  g_class_counts := He.glo_ok X G (c.fact 20 (f := .glo "class_counts") rfl)
  d_up_to := c.def_ 24 rfl
  g_up_to := He.glo_ok X G (c.fact 21 (f := .glo "up_to") rfl)
  d_mean_looked := c.def_ 25 rfl
  g_mean_looked := He.glo_ok X G (c.fact 22 (f := .glo "mean_looked") rfl)
  d_InvalidNumber__init := c.def_ 26 rfl
  d_InvalidSize__init := c.def_ 27 rfl
  d_InvalidMarked__init := c.def_ 28 rfl
  d_NotAPlan__init := c.def_ 29 rfl
  d_law_cell := c.def_ 30 rfl
  g_law_cell := He.glo_ok X G (c.fact 23 (f := .glo "_law_cell") rfl)
  d_law_bag := c.def_ 31 rfl
  g_law_bag := He.glo_ok X G (c.fact 24 (f := .glo "_law_bag") rfl)
  d_law_take := c.def_ 32 rfl
  g_law_take := He.glo_ok X G (c.fact 25 (f := .glo "_law_take") rfl)
  d_law_int := c.def_ 33 rfl
  g_law_int := He.glo_ok X G (c.fact 26 (f := .glo "_law_int") rfl)
  d_law_rows := c.def_ 34 rfl
  g_law_rows := He.glo_ok X G (c.fact 27 (f := .glo "_law_rows") rfl)
  d_law_many := c.def_ 35 rfl
  g_law_many := He.glo_ok X G (c.fact 28 (f := .glo "_law_many") rfl)
  d_law_run := c.def_ 36 rfl
  g_law_run := He.glo_ok X G (c.fact 29 (f := .glo "_law_run") rfl)
  d_law_right := c.def_ 37 rfl
  g_law_right := He.glo_ok X G (c.fact 30 (f := .glo "_law_right") rfl)
  d_law := c.def_ 38 rfl
  g_law := He.glo_ok X G (c.fact 31 (f := .glo "law") rfl)
  d_law_all_draws := c.def_ 39 rfl
  g_law_all_draws := He.glo_ok X G (c.fact 32 (f := .glo "_law_all_draws") rfl)
  f_isinstance := He.free_ok X G (c.fact 33 (f := .free "isinstance") rfl)
  f_int := He.free_ok X G (c.fact 34 (f := .free "int") rfl)
  f_bool := He.free_ok X G (c.fact 35 (f := .free "bool") rfl)
  f_str := He.free_ok X G (c.fact 36 (f := .free "str") rfl)
  f_abs := He.free_ok X G (c.fact 37 (f := .free "abs") rfl)
  f_len := He.free_ok X G (c.fact 38 (f := .free "len") rfl)
  f_range := He.free_ok X G (c.fact 39 (f := .free "range") rfl)
  f_max := He.free_ok X G (c.fact 40 (f := .free "max") rfl)
  f_min := He.free_ok X G (c.fact 41 (f := .free "min") rfl)
  f_repr := He.free_ok X G (c.fact 42 (f := .free "repr") rfl)
  f_list := He.free_ok X G (c.fact 43 (f := .free "list") rfl)
  f_tuple := He.free_ok X G (c.fact 44 (f := .free "tuple") rfl)
  f_all := He.free_ok X G (c.fact 45 (f := .free "all") rfl)
  f_sorted := He.free_ok X G (c.fact 46 (f := .free "sorted") rfl)
  f_sum := He.free_ok X G (c.fact 47 (f := .free "sum") rfl)
  f_divmod := He.free_ok X G (c.fact 48 (f := .free "divmod") rfl)
  c_CLASSES := He.int_ok X G (c.fact 49 (f := .int "CLASSES" 8) rfl)
  c_LONGEST := He.int_ok X G (c.fact 50 (f := .int "LONGEST" 20) rfl)
  c_SIZE := He.int_ok X G (c.fact 51 (f := .int "SIZE" 1000000000000000000000000000000000000000000000000000000000000000000000000000000000000000000000000000000000000000000000000000000000000000000000000000000) rfl)
  c_SIGNS := He.str_ok X G (c.fact 52 (f := .str "SIGNS" "-01234567") rfl)
  g_Ratio := He.glo_ok X G (c.fact 53 (f := .glo "Ratio") rfl)
  cl_Ratio := He.cls_ok (c.fact 54 (f := .cls "Ratio") rfl)
  n_Ratio_top := He.noat_ok (c.fact 55 (f := .noat "Ratio" "top") rfl)
  n_Ratio_bottom := He.noat_ok (c.fact 56 (f := .noat "Ratio" "bottom") rfl)
  mk_Ratio := mg_ok (c.fact 57 (f := .mkr "Ratio") rfl)
  g_Plan := He.glo_ok X G (c.fact 58 (f := .glo "Plan") rfl)
  cl_Plan := He.cls_ok (c.fact 59 (f := .cls "Plan") rfl)
  n_Plan_rows := He.noat_ok (c.fact 60 (f := .noat "Plan" "rows") rfl)
  n_Plan_longest := He.noat_ok (c.fact 61 (f := .noat "Plan" "longest") rfl)
  n_Plan_classes := He.noat_ok (c.fact 62 (f := .noat "Plan" "classes") rfl)
  mk_Plan := mg_ok (c.fact 63 (f := .mkr "Plan") rfl)
  cr_Plan := crB_ok (ex_at c 0 rfl)
  cm_Plan_read := cmB_ok (ex_at c 1 rfl)
  in_Plan := insB_ok (He.cls_ok (c.fact 59 (f := .cls "Plan") rfl)) (ex_at c 2 rfl)
  g_InvalidNumber := He.glo_ok X G (c.fact 64 (f := .glo "InvalidNumber") rfl)
  er_InvalidNumber := errB_ok (ex_at c 3 rfl)
  no_InvalidNumber := noB_ok (ex_at c 4 rfl)
  g_InvalidSize := He.glo_ok X G (c.fact 65 (f := .glo "InvalidSize") rfl)
  er_InvalidSize := errB_ok (ex_at c 5 rfl)
  no_InvalidSize := noB_ok (ex_at c 6 rfl)
  g_InvalidMarked := He.glo_ok X G (c.fact 66 (f := .glo "InvalidMarked") rfl)
  er_InvalidMarked := errB_ok (ex_at c 7 rfl)
  no_InvalidMarked := noB_ok (ex_at c 8 rfl)
  g_NotAPlan := He.glo_ok X G (c.fact 67 (f := .glo "NotAPlan") rfl)
  er_NotAPlan := errB_ok (ex_at c 9 rfl)
  no_NotAPlan := noB_ok (ex_at c 10 rfl)
  g_InputError := He.glo_ok X G (c.fact 68 (f := .glo "InputError") rfl)
  g_LimitError := He.glo_ok X G (c.fact 69 (f := .glo "LimitError") rfl)
  g_InvalidRows := He.glo_ok X G (c.fact 70 (f := .glo "InvalidRows") rfl)
  g_NotRising := He.glo_ok X G (c.fact 71 (f := .glo "NotRising") rfl)
  i_NNoneType := isiB_ok (ex_at c 11 rfl)
  i_Nbool := isiB_ok (ex_at c 12 rfl)
  i_Nint := isiB_ok (ex_at c 13 rfl)
  i_Nstr := isiB_ok (ex_at c 14 rfl)
  i_Ntuple := isiB_ok (ex_at c 15 rfl)
  i_Nlist := isiB_ok (ex_at c 16 rfl)
  i_Ndict := isiB_ok (ex_at c 17 rfl)
  i_Bint := isiB_ok (ex_at c 18 rfl)
  i_Bbool := isiB_ok (ex_at c 19 rfl)
  i_SS := isiB_ok (ex_at c 20 rfl)
  i_PP := isiB_ok (ex_at c 21 rfl)
  i_UU := isiB_ok (ex_at c 22 rfl)
end Toy

set_option Elab.async false
set_option linter.all false
set_option maxRecDepth 100000
set_option maxHeartbeats 8000000
namespace Toy
open PySem PySem.Spec PyProof.Rows L2 My Dt SX
abbrev R : PySem.W.OpenRow := PySem.W.OpenLaw.row PySem.Challenge.rw_drawclaims_k25_counts_by_all_draws
def asL : List Addr := List.range 1500
def obA (g : Addr → Option Obj) : Hk.AlE := Hk.obsE fa fn ex (He.frG g asL)
def hk : PySem.W.Hook where
  α := Hk.AlE
  obs := fun s => obA s.heap.get?
  val := fun _ => Hk.valE fn
  says := fun _ h => ∃ K : PySem.W.Frag, K.In h ∧ Hk.SaysE fa fn ex K
  of := fun _ _ e => ⟨_, He.frG_in, e⟩
  keeps := fun _ _ _ ⟨K, hK, c⟩ k => ⟨K, PySem.W.Frag.In.keeps hK k, c⟩
def ob (s : PySem.W.SharedT) : Hk.AlE := obA (HandSHeadRun.getT s)
theorem ob_eq (s : PySem.W.SharedT) : ob s = hk.obs s.abs := by
  have e : HandSHeadRun.getT s = s.abs.heap.get? := funext (HandSHeadRun.getT_eq s)
  show obA _ = obA _
  rw [e]
def loose : List Str := (["_wall", "InputError", "InvalidNumber", "InvalidRows", "NotRising", "InvalidMarks", "InvalidState", "InvalidSize", "InvalidMarked", "InvalidText", "NotAPlan", "LimitError", "TooFew", "FIGURES", "is_integer", "common_divisor", "read_integer", "LONGEST", "CLASSES", "SIZE", "SIGNS", "is_entered", "is_row", "check_rows", "count_classes"] : List Str) ++ (["ways_of", "stops_of", "leads_of", "way_to", "way_on", "find_sinking", "check_marks", "Plan", "Ratio", "check_range", "check_plan", "check_size", "check_marked", "check_table", "product_down", "stop_draws", "count_stops", "stops_up_to", "draws", "class_counts", "up_to", "mean_looked", "_law_cell", "_law_bag", "_law_take"] : List Str) ++ (["_law_pick", "_law_int", "_law_so", "_law_rows", "_law_many", "_law_run", "_law_all_draws", "_law_right"] : List Str)
abbrev qV : Program := PySem.W.view R.prog [66]
noncomputable def eF (w : World) (os : OsState) : Option PySem.W.SharedT := HandSHeadRun.endF (HandSHeadRun.stepQ (HandSHeadRun.denQ HandSHeadRun.tabQ) R.prog w) 20000 R.prog w os
theorem hr2 (w : World) (os : OsState) : (eF w os).map (fun s => HandSHeadRun.seenQ qV loose (PySem.importedModules R.prog.main.body) (fun s => PySem.W.xlAt qV [] s && PySem.W.recOk R.toRowW.records s) s.abs) = some (PySem.W.openGood qV loose) := by kernel_rfl
theorem hr3 (w : World) (os : OsState) : (eF w os).map (fun s => (HandSHeadRun.looksF R.prog (PySem.W.boot_heap w.params) s.abs, ob s)) = some (true, hk.val w) := by kernel_rfl
theorem comb3 {α A B E : Type} {o : Option α} {f1 : α → A} {f2 : α → B} {f3 : α → E} {a : A} {b : B} {e : E} (h2 : o.map f2 = some b) (h3 : o.map (fun s => (f1 s, f3 s)) = some (a, e)) : o.map (fun s => (f1 s, f2 s, f3 s)) = some (a, b, e) := by
  cases o with
  | none => cases h2
  | some s =>
    have e2 := Option.some.inj h2
    have e3 := Option.some.inj h3
    have e4 := congrArg Prod.fst e3
    have e5 := congrArg Prod.snd e3
    dsimp only at e2 e4 e5
    show some (f1 s, f2 s, f3 s) = _
    rw [e2, e4, e5]
theorem headRunT (w : World) : HandSHeadRun.RunEq R qV hk ob 20000 loose w := fun os => comb3 (hr2 w os) (hr3 w os)
end Toy

set_option Elab.async false
set_option linter.all false
set_option maxRecDepth 100000
set_option maxHeartbeats 8000000
/-! DatX: list(range(n)) -/
namespace Dt
open PySem PySem.Spec PyProof.Rows L2 My He SX
section
variable {G : Cf} {X : Cx} {en : En} {W W1 : Wd} {σ : L2.St} {H H1 : Hp} {ρ : List Sl} {S S1 : Sto} {pins : List (Addr × Obj)} {s s1 : Shared} {e : Expr} {te : RE} {pos p p2 pos2 : Pos}
theorem Reps.rg {K : PySem.W.Frag} {W : Wd} (a b : Int) : Reps K W (rngD a (b - a).toNat) (rgV a b) := by
  unfold rngD rgV
  generalize List.range (b - a).toNat = l
  induction l with
  | nil => exact .nil
  | cons i l ih => exact .cons (.int _) ih
/-- list(range(e)) -/
abbrev dLstRg (te : RE) : RE := fun ρ S E Q => te ρ S E fun o S1 => ∃ n : Int, o = .v (.int n) ∧ -(2 ^ 62) ≤ n ∧ n ≤ 2 ^ 24 ∧ NewL S1 Q (rngD 0 n.toNat)
theorem de_lstRg (hc : G.B.cal = false) (hg : Glb G "list") (hm : G.B.mg "list" = none) (hg2 : Glb G "range") (hm2 : G.B.mg "range" = none) (he : DE G e te)
    (na : ∀ env : Env, starEach [e] env = (false, eval e env) :: starEach [] env := by intro _; rfl) (nb : ∀ env : Env, starEach [.Call (.Name "range" p2) [e] [] pos2] env = (false, eval (.Call (.Name "range" p2) [e] [] pos2) env) :: starEach [] env := by intro _; rfl) :
    DE G (.Call (.Name "list" p) [.Call (.Name "range" p2) [e] [] pos2] [] pos) (dLstRg te) := by
  refine ⟨fun {X en W σ H ρ S E pins s Q} z q => ?_⟩
  have PP := pe_listRg (X := X) (p := p) (pos := pos) (z.hf.b.cm hc).1 (gl_of z.hf.sc hg) (by rw [z.hf.b.mg]; exact hm) (prg_1 (p := p2) (pos := pos2) (gl_of z.hf.sc hg2) (by rw [z.hf.b.mg]; exact hm2) (pcan X e) (na _)) (nb _)
  refine PP.run pins s σ H _ z.I fun pins1 s1 I1 => ?_
  refine he.at (z.re I1) q fun v s2 x' H1 W1 o1 S1 z1 g1 r1 ro q1 => ?_
  obtain ⟨n, rfl, b1, b2, q2⟩ := q1
  cases ro
  refine ⟨_, H1, z1.I, r1, n, rfl, ⟨by omega, by omega, by omega, by omega, by omega⟩, fun p hp => ?_⟩
  have rr : Reps G.B.K W1 (rngD 0 (n - 0).toNat) (rgV 0 n) := Reps.rg 0 n
  rw [Int.sub_zero] at rr
  exact Nx.back g1 _ _ (nxN z1.rs.ho rr q2 p hp)
end
section
variable {B : Bs} {k : Nat} {S : Sto} {Ex : XS} {Q : QO} {o : O}
theorem reps_intsQ {K : PySem.W.Frag} {W : Wd} : ∀ {ns : List Int} {vs : List V}, Reps K W (ns.map D.int) vs → vs = ns.map V.int
  | [], _, h => by cases h; rfl
  | n :: ns, _, h => by
    cases h with
    | cons r t =>
      cases r
      rw [reps_intsQ t]
      rfl
theorem flat_ints (ns : List Int) : (ns.map V.int).all flatV = true := by
  rw [List.all_map]
  exact List.all_eq_true.mpr fun _ _ => rfl
theorem inV_ints (x : Int) : ∀ ns : List Int, inV (.int x) (ns.map V.int) = decide (x ∈ ns)
  | [] => by simp [inV]
  | n :: ns => by
    have ih := inV_ints x ns
    unfold inV at ih ⊢
    rw [List.map_cons, List.any_cons, ih]
    have e : eqV (V.int n) (.int x) = (n == x) := rfl
    rw [e, Bool.eq_iff_iff, Bool.or_eq_true, beq_iff_eq, decide_eq_true_eq, decide_eq_true_eq, List.mem_cons]
    exact ⟨fun h => h.imp Eq.symm id, fun h => h.imp Eq.symm id⟩
/-- an int in a list or tuple of ints -/
theorem s_inQ {x : Int} {ns : List Int} (h : SqO S o (ns.map .int)) (q : Q (.v (.bl (decide (x ∈ ns)))) S) : sem2 B k (compareOp .In) (.v (.int x)) o S Ex Q := lift2 (r := rIn B.K false) (fun {X en} ft => by
    have z := op_in_seq (X := X)
    rw [ft.K] at z
    exact z) fun en W H x' y' ho rx ry => by
  cases rx
  obtain ⟨a, vs, rfl, hq, rr⟩ := sqO_at ho h ry
  obtain rfl := reps_intsQ rr
  exact ⟨a, _, rfl, hq, rfl, flat_ints ns, nx ho (.bl _) (by rw [inV_ints]; exact q)⟩
end
section
variable {G : Cf} {pos : Pos} {te : RE}
/-- (x, y) = (a, b) with names that inner blocks read -/
theorem ds_asgS {tg e : Expr} {g : RG} {vs : List Nat} (he : DE G e te) (hg : DG G tg vs g) (hw : ∀ env : Env, env.scope = G.sc → swappedStores [tg] e env = pure none) (hs : ∀ env : Env, swapsWithSole [tg] e pos.line env = pure false := by intro _; rfl)
    (h1 : ∀ env : Env, (assignEach [tg] env).map (·.2) = [assign tg env] := by intro _; rfl) : DS G (.Assign [tg] e pos) (dAsg te g) := by
  refine ⟨fun {X en W σ H ρ S pins s D} z q => wpAny_Assign_stores (he.at z q fun v s1 x' H1 W1 o S1 z1 g1 r1 ro ⟨d, e1, q1⟩ => ?_) (hs _) (hw _ z.hf.sc)⟩
  subst e1
  rw [h1]
  exact thn (hg.run z1 ro r1 q1) fun _ s2 ⟨σ2, H2, W2, ρ2, S2, z2, ⟨l2, q2⟩, _⟩ => ⟨σ2, H2, z2.I, W2, ρ2, S2, z2.rs, g1.le.trans l2, q2⟩
end
end Dt

set_option Elab.async false
set_option linter.all false
set_option maxRecDepth 100000
set_option maxHeartbeats 8000000
/-! DatY: errors with one field; isinstance of a handled error -/
namespace Dt
open PySem PySem.Spec PyProof.Rows L2 My He
open PySem.HandSPX
section
end
section
variable {G : Cf} {p p1 p2 pos : Pos} {x y : Str}
end
section
variable {G : Cf} {pos : Pos} {te : RE}
end
end Dt

set_option Elab.async false
set_option linter.all false
set_option maxRecDepth 100000
set_option maxHeartbeats 8000000
/-! DatZ: repr of plain trees whose text is short -/
namespace Dt
open PySem PySem.Spec PyProof.Rows L2 My He SX
/-- what repr gives of a plain tree -/
@[irreducible] def shD (d : D) : Str := match pd d with
  | some p => p.shown
  | none => Str.empty
structure Fp (p : PyData) (w e : Nat) : Prop where
  nd : p.hasDict = false
  sh : p.showable = true
  dp : p.depth ≤ e
  lv : p.leavesShort 13 = true
  wt : p.weight ≤ w
structure Fps (ps : List PyData) (w e : Nat) : Prop where
  nd : PyData.hasDictAll ps = false
  sh : PyData.showableAll ps = true
  dp : PyData.depthAll ps ≤ e
  lv : PyData.leavesShortAll 13 ps = true
  wt : PyData.weightAll ps ≤ w
/-- a plain tree with a short text -/
def Fd (d : D) (w e : Nat) : Prop := ∃ p, pd d = some p ∧ Fp p w e
def Fds (ds : List D) (w e : Nat) : Prop := ∃ ps, pds ds = some ps ∧ Fps ps w e
theorem Fd.non : Fd .non 0 0 := ⟨_, rfl, rfl, rfl, Nat.le_refl _, rfl, Nat.le_refl _⟩
theorem Fd.bl (b : Bool) : Fd (.bl b) 0 0 := ⟨_, rfl, rfl, rfl, Nat.le_refl _, rfl, Nat.le_refl _⟩
theorem Fd.int {i : Int} (h1 : -1000000000 < i) (h2 : i < 1000000000) : Fd (.int i) 31 0 := by
  have hb : i.natAbs < 2 ^ 30 := by omega
  have hl : i.natAbs.log2 < 30 := by
    by_cases z : i.natAbs = 0
    · rw [z]
      decide
    · exact (Nat.log2_lt z).mpr hb
  refine ⟨_, rfl, rfl, ?_, Nat.le_refl _, ?_, ?_⟩
  · simp only [PyData.showable]
    exact decide_eq_true (by omega)
  · simp only [PyData.leavesShort]
    refine decide_eq_true ?_
    show (Str.ofString (toString i)).length ≤ 13
    have h := intL_len (k := 12) (i := i) (by decide) (by omega) (by omega)
    rw [txt_int, S_len]
    omega
  · simp only [PyData.weight]
    split <;> omega
theorem Fd.str {l : List Nat} (h : ∀ c ∈ l, c < 128) : Fd (.str (S l)) l.length 0 := by
  refine ⟨_, rfl, rfl, rfl, Nat.le_refl _, ?_, ?_⟩
  · simp only [PyData.leavesShort]
    exact List.all_eq_true.mpr fun c hc => decide_eq_true (Nat.lt_trans (h c hc) (by decide))
  · simp only [PyData.weight]
    exact Nat.le_of_eq (S_len l)
theorem Fds.nil : Fds [] 0 0 := ⟨[], rfl, rfl, rfl, Nat.le_refl _, rfl, Nat.le_refl _⟩
theorem Fds.cons {d : D} {ds : List D} {w1 w2 e1 e2 : Nat} (h : Fd d w1 e1) (t : Fds ds w2 e2) : Fds (d :: ds) (w1 + 1 + w2) (max e1 e2) := by
  obtain ⟨p, e, f⟩ := h
  obtain ⟨ps, es, g⟩ := t
  refine ⟨p :: ps, ?_, ?_, ?_, ?_, ?_, ?_⟩
  · show (match pd d, pds ds with | some d, some ds => some (d :: ds) | _, _ => none) = _
    rw [e, es]
  · rw [PyData.hasDictAll, f.nd, g.nd] <;> rfl
  · rw [PyData.showableAll, f.sh, g.sh] <;> rfl
  · rw [PyData.depthAll]
    have := f.dp
    have := g.dp
    omega
  · rw [PyData.leavesShortAll, f.lv, g.lv] <;> rfl
  · rw [PyData.weightAll]
    have := f.wt
    have := g.wt
    omega
theorem Fd.mono {d : D} {w e w' e' : Nat} (h : Fd d w e) (h1 : w ≤ w') (h2 : e ≤ e') : Fd d w' e' := let ⟨p, k, f⟩ := h; ⟨p, k, f.nd, f.sh, Nat.le_trans f.dp h2, f.lv, Nat.le_trans f.wt h1⟩
theorem Fds.mono {d : List D} {w e w' e' : Nat} (h : Fds d w e) (h1 : w ≤ w') (h2 : e ≤ e') : Fds d w' e' := let ⟨p, k, f⟩ := h; ⟨p, k, f.nd, f.sh, Nat.le_trans f.dp h2, f.lv, Nat.le_trans f.wt h1⟩
theorem Fd.tup {ds : List D} {w e : Nat} (h : Fds ds w e) : Fd (.tup ds) w (e + 1) := by
  obtain ⟨ps, k, f⟩ := h
  refine ⟨.tuple ps, ?_, ?_, ?_, ?_, ?_, ?_⟩
  · show (pds ds).map PyData.tuple = _
    rw [k] <;> rfl
  · rw [PyData.hasDict]; exact f.nd
  · rw [PyData.showable]; exact f.sh
  · rw [PyData.depth]; exact Nat.succ_le_succ f.dp
  · rw [PyData.leavesShort]; exact f.lv
  · rw [PyData.weight]; exact f.wt
theorem Fd.lst {ds : List D} {w e : Nat} (h : Fds ds w e) : Fd (.lst ds) w (e + 1) := by
  obtain ⟨ps, k, f⟩ := h
  refine ⟨.list ps, ?_, ?_, ?_, ?_, ?_, ?_⟩
  · show (pds ds).map PyData.list = _
    rw [k] <;> rfl
  · rw [PyData.hasDict]; exact f.nd
  · rw [PyData.showable]; exact f.sh
  · rw [PyData.depth]; exact Nat.succ_le_succ f.dp
  · rw [PyData.leavesShort]; exact f.lv
  · rw [PyData.weight]; exact f.wt
theorem Fds.map {α : Type} {f : α → D} {w e : Nat} : ∀ {xs : List α}, (∀ x ∈ xs, Fd (f x) w e) → Fds (xs.map f) ((w + 1) * xs.length) e
  | [], _ => Fds.nil.mono (Nat.zero_le _) (Nat.zero_le _)
  | x :: xs, h => (Fds.cons (h x List.mem_cons_self) (Fds.map fun y hy => h y (List.mem_cons_of_mem _ hy))).mono (by rw [List.length_cons, Nat.mul_succ]; omega) (by omega)
section
variable {B : Bs} {k : Nat} {S0 : Sto} {Ex : XS} {Q : QO}
end
end Dt

set_option Elab.async false
set_option linter.all false
set_option maxRecDepth 100000
set_option maxHeartbeats 8000000
/-! DatZ1: text[::-1], == of tuples of texts -/
namespace Dt
open PySem PySem.Spec PyProof.Rows L2 My He SX
section
variable {G : Cf} {X : Cx} {en : En} {W W1 : Wd} {σ : L2.St} {H H1 : Hp} {ρ : List Sl} {S S1 : Sto} {E : XD} {pins : List (Addr × Obj)} {s s1 : Shared} {e : Expr} {te : RE} {pos p p1 p2 p3 : Pos}
end
theorem atI_nat {α : Type} {xs : List α} {i : Nat} {x : α} (h : xs[i]? = some x) : L2.atI xs (i : Int) = some x := by
  have hi := (List.getElem?_eq_some_iff.mp h).1
  unfold L2.atI ixN
  rw [if_pos (by omega), if_pos (by omega)]
  show xs[((i : Nat) : Int).toNat]? = _
  rw [Int.toNat_natCast]
  exact h
section
variable {B : Bs} {k : Nat} {S : Sto} {Ex : XS} {Q : QO} {i : Int}
theorem rep_flat (n : Nat) (d : D) : (List.replicate n [d]).flatten = List.replicate n d := by
  induction n with
  | zero => rfl
  | succ n ih =>
    rw [List.replicate_succ, List.flatten_cons, ih, List.replicate_succ] <;> rfl
end
end Dt

set_option Elab.async false
set_option linter.all false
set_option maxRecDepth 100000
set_option maxHeartbeats 8000000
/-! DatZ2: enumerate(list); errors with two fields -/
namespace Dt
open PySem PySem.Spec PyProof.Rows L2 My He SX
section
variable {G : Cf} {X : Cx} {en : En} {W W1 : Wd} {σ : L2.St} {H H1 : Hp} {ρ : List Sl} {S S1 : Sto} {E : XD} {pins : List (Addr × Obj)} {s s1 : Shared} {a : Expr} {tA : RA} {pos p : Pos}
end
end Dt

set_option Elab.async false
set_option linter.all false
set_option maxRecDepth 100000
set_option maxHeartbeats 8000000
/-! DatZ3: is, is not of truth values -/
namespace Dt
open PySem PySem.Spec PyProof.Rows L2 My He SX
section
variable {B : Bs} {k : Nat} {S : Sto} {Ex : XS} {Q : QO} {a b : Bool}
end
end Dt

set_option Elab.async false
set_option linter.all false
set_option maxRecDepth 100000
set_option maxHeartbeats 8000000
/-! DatZ4: sum of a tuple; isinstance of a handled error and a built-in class -/
namespace Dt
open PySem PySem.Spec PyProof.Rows L2 My He SX
section
variable {prog : Program} {w : World} {A : Around} {E : Value → Shared → Prop} {s : Shared} {l : Addr} {its : List Value} {ns : List Int} {Q : Value → Shared → Prop}
end
section
variable {B : Bs} {k : Nat} {S : Sto} {Ex : XS} {Q : QO}
end
section
variable {G : Cf} {p p1 p2 pos : Pos} {x y : Str} {n : String}
end
section
variable {G : Cf} {X : Cx} {en : En} {W W1 : Wd} {σ : L2.St} {H H1 : Hp} {ρ : List Sl} {S S1 : Sto} {E : XD} {pins : List (Addr × Obj)} {s s1 : Shared} {o : Expr} {to : RE} {pos apos : Pos} {m : Str}
end
end Dt

set_option Elab.async false
set_option linter.all false
set_option maxRecDepth 100000
set_option maxHeartbeats 8000000
/-! DatZ5: a dict's value by its key -/
namespace Dt
open PySem PySem.Spec PyProof.Rows L2 My He SX
section
variable {B : Bs} {k : Nat} {S : Sto} {Ex : XS} {Q : QO} {i : Key}
end
end Dt

set_option Elab.async false
set_option linter.all false
set_option maxRecDepth 100000
set_option maxHeartbeats 8000000
/-! DatZ6: name = {k: v for ..}, the name a local of the def -/
namespace Dt
open PySem PySem.Spec PyProof.Rows L2 My He SX
section
variable {G : Cf} {tg : Expr} {pos : Pos}
end
end Dt

set_option Elab.async false
set_option linter.all false
set_option maxRecDepth 100000
set_option maxHeartbeats 8000000
/-! DatZ7: list(range(a, b)) -/
namespace Dt
open PySem PySem.Spec PyProof.Rows L2 My He SX
section
variable {G : Cf} {e f : Expr} {te tf : RE} {pos p p2 pos2 : Pos}
end
end Dt

set_option Elab.async false
set_option linter.all false
set_option maxRecDepth 100000
set_option maxHeartbeats 8000000
/-! DatZ8: repr of trees of tuples in which {} may stand -/
namespace Dt
open PySem PySem.Spec PyProof.Rows L2 My He SX
mutual
/-- the data of a tree without lists -/
def pdR : D → Option PyData
  | .non => some .none
  | .bl b => some (.bool b)
  | .int i => some (.int i)
  | .str x => some (.str x)
  | .tup xs => (pdRs xs).map .tuple
  | .dct [] => some (.dict [])
  | _ => none
def pdRs : List D → Option (List PyData)
  | [] => some []
  | x :: xs => match pdR x, pdRs xs with
    | some d, some ds => some (d :: ds)
    | _, _ => none
end
section
variable {X : Cx} {pins : List (Addr × Obj)} {σ : L2.St} {H : Hp} {s : Shared} {W : Wd}
mutual
theorem pdR_reads (I : Inv X pins σ H s) (f : ∀ a o, W.F a = some o → H a = some o) : ∀ {d : D} {v : V} {u : Value} {p : PyData}, Rep X.K W d v → RelV v u → pdR d = some p → ∃ as, Reads s.heap u p as ∧ sysModules ∉ as
  | _, _, _, _, .non, r, e => by
    cases e
    cases r
    exact ⟨_, .none, fun m => nomatch m⟩
  | _, _, _, _, .bl b, r, e => by
    cases e
    cases r
    exact ⟨_, .bool b, fun m => nomatch m⟩
  | _, _, _, _, .int i, r, e => by
    cases e
    obtain ⟨t, rfl⟩ := r
    exact ⟨_, .int i t, fun m => nomatch m⟩
  | _, _, _, _, .str x, r, e => by
    cases e
    obtain ⟨t, rfl⟩ := r
    exact ⟨_, .str x t, fun m => nomatch m⟩
  | _, _, _, _, .tup h q, r, e => by
    unfold pdR at e
    cases z : pdRs _ with
    | none =>
      rw [z] at e
      cases e
    | some ds =>
      rw [z] at e
      cases e
      cases r
      obtain ⟨its, rv, ⟨o, ho, hc, n, hd⟩, _⟩ := I.tuple (sqT_le f h)
      obtain ⟨as, hr, hn⟩ := pdRs_reads I f q rv z
      exact ⟨_, .tuple ho hc hd hr, hn⟩
  | _, _, _, _, .dct h q, r, e => by
    rename_i xs vs a
    cases xs with
    | cons k xs =>
      unfold pdR at e
      cases e
    | nil =>
      unfold pdR at e
      cases e
      cases q
      cases r
      obtain ⟨R, n⟩ := dict_reads I (ps := []) (f _ _ h)
      exact ⟨_, R, fun m => n (List.mem_singleton.mp m).symm⟩
  | _, _, _, _, .lst h q, r, e => by
    unfold pdR at e
    cases e
  | _, _, _, _, .lsk h q, r, e => by
    unfold pdR at e
    cases e
  | _, _, _, _, .ins h q, r, e => by
    unfold pdR at e
    cases e
  | _, _, _, _, .ty n, r, e => by
    unfold pdR at e
    cases e
  | _, _, _, _, .cls n, r, e => by
    unfold pdR at e
    cases e
  | _, _, _, _, .fn n, r, e => by
    unfold pdR at e
    cases e
  | _, _, _, _, .ptr h, r, e => by
    unfold pdR at e
    cases e
  | _, _, _, _, .adr h, r, e => by
    unfold pdR at e
    cases e
theorem pdRs_reads (I : Inv X pins σ H s) (f : ∀ a o, W.F a = some o → H a = some o) : ∀ {ds : List D} {vs : List V} {us : List Value} {ps : List PyData}, Reps X.K W ds vs → Vals vs us → pdRs ds = some ps → ∃ as, ReadsAll s.heap us ps as ∧ sysModules ∉ as
  | _, _, _, _, .nil, r, e => by
    cases e
    cases r
    exact ⟨_, .nil, fun m => nomatch m⟩
  | _, _, _, _, .cons (d := d) (ds := ds) h t, r, e => by
    unfold pdRs at e
    cases q : pdR d with
    | none =>
      rw [q] at e
      cases e
    | some p =>
      cases q2 : pdRs ds with
      | none =>
        rw [q, q2] at e
        cases e
      | some ps =>
        rw [q, q2] at e
        cases e
        cases r with
        | cons r1 r2 =>
          obtain ⟨as, h1, n1⟩ := pdR_reads I f h r1 q
          obtain ⟨bs, h2, n2⟩ := pdRs_reads I f t r2 q2
          exact ⟨_, .cons h1 h2, fun m => (List.mem_append.mp m).elim n1 n2⟩
end
end
structure Gp (p : PyData) (w e : Nat) : Prop where
  sh : p.showable = true
  dp : p.depth ≤ e
  lv : p.leavesShort 13 = true
  wt : p.weight ≤ w
structure Gps (ps : List PyData) (w e : Nat) : Prop where
  sh : PyData.showableAll ps = true
  dp : PyData.depthAll ps ≤ e
  lv : PyData.leavesShortAll 13 ps = true
  wt : PyData.weightAll ps ≤ w
/-- a tree without lists and with a short text -/
def Gd (d : D) (w e : Nat) : Prop := ∃ p, pdR d = some p ∧ Gp p w e
def Gds (ds : List D) (w e : Nat) : Prop := ∃ ps, pdRs ds = some ps ∧ Gps ps w e
theorem Gd.of {d : D} {w e : Nat} (h : Fd d w e) (f : pdR d = pd d) : Gd d w e := let ⟨p, k, g⟩ := h; ⟨p, f.trans k, g.sh, g.dp, g.lv, g.wt⟩
theorem Gd.non : Gd .non 0 0 := .of .non rfl
theorem Gd.bl (b : Bool) : Gd (.bl b) 0 0 := .of (.bl b) rfl
theorem Gd.int {i : Int} (h1 : -1000000000 < i) (h2 : i < 1000000000) : Gd (.int i) 31 0 := .of (.int h1 h2) rfl
theorem Gd.str {l : List Nat} (h : ∀ c ∈ l, c < 128) : Gd (.str (S l)) l.length 0 := .of (.str h) rfl
theorem Gd.dct : Gd (.dct []) 0 1 := ⟨_, rfl, rfl, by decide, rfl, Nat.le_refl _⟩
theorem Gds.nil : Gds [] 0 0 := ⟨[], rfl, rfl, Nat.le_refl _, rfl, Nat.le_refl _⟩
theorem Gds.cons {d : D} {ds : List D} {w1 w2 e1 e2 : Nat} (h : Gd d w1 e1) (t : Gds ds w2 e2) : Gds (d :: ds) (w1 + 1 + w2) (max e1 e2) := by
  obtain ⟨p, e, f⟩ := h
  obtain ⟨ps, es, g⟩ := t
  refine ⟨p :: ps, ?_, ?_, ?_, ?_, ?_⟩
  · show (match pdR d, pdRs ds with | some d, some ds => some (d :: ds) | _, _ => none) = _
    rw [e, es]
  · rw [PyData.showableAll, f.sh, g.sh] <;> rfl
  · rw [PyData.depthAll]
    have := f.dp
    have := g.dp
    omega
  · rw [PyData.leavesShortAll, f.lv, g.lv] <;> rfl
  · rw [PyData.weightAll]
    have := f.wt
    have := g.wt
    omega
theorem Gd.mono {d : D} {w e w' e' : Nat} (h : Gd d w e) (h1 : w ≤ w') (h2 : e ≤ e') : Gd d w' e' := let ⟨p, k, f⟩ := h; ⟨p, k, f.sh, Nat.le_trans f.dp h2, f.lv, Nat.le_trans f.wt h1⟩
theorem Gds.mono {d : List D} {w e w' e' : Nat} (h : Gds d w e) (h1 : w ≤ w') (h2 : e ≤ e') : Gds d w' e' := let ⟨p, k, f⟩ := h; ⟨p, k, f.sh, Nat.le_trans f.dp h2, f.lv, Nat.le_trans f.wt h1⟩
theorem Gd.tup {ds : List D} {w e : Nat} (h : Gds ds w e) : Gd (.tup ds) w (e + 1) := by
  obtain ⟨ps, k, f⟩ := h
  refine ⟨.tuple ps, ?_, ?_, ?_, ?_, ?_⟩
  · show (pdRs ds).map PyData.tuple = _
    rw [k] <;> rfl
  · rw [PyData.showable]; exact f.sh
  · rw [PyData.depth]; exact Nat.succ_le_succ f.dp
  · rw [PyData.leavesShort]; exact f.lv
  · rw [PyData.weight]; exact f.wt
/-- a tree whose repr may be asked -/
def Yd (d : D) : Prop := (∃ p, pd d = some p ∧ p.hasDict = false ∧ p.showable = true ∧ p.depth ≤ 50 ∧ p.shown.length ≤ sizeLine) ∨ ∃ p, pdR d = some p ∧ p.showable = true ∧ p.depth ≤ 50 ∧ p.shown.length ≤ sizeLine
theorem Fd.y {d : D} {w e : Nat} (h : Fd d w e) (hw : w ≤ 1048576 := by decide) (he : e ≤ 50 := by decide) : Yd d := let ⟨p, e1, f⟩ := h
  .inl ⟨p, e1, f.nd, f.sh, Nat.le_trans f.dp he, PyData.shown_fits (B := 13) (by decide) (by decide) f.lv (Nat.le_trans f.wt (Nat.le_trans hw (Nat.le_of_ble_eq_true rfl)))⟩
theorem Gd.y {d : D} {w e : Nat} (h : Gd d w e) (hw : w ≤ 1048576 := by decide) (he : e ≤ 50 := by decide) : Yd d := let ⟨p, e1, f⟩ := h
  .inr ⟨p, e1, f.sh, Nat.le_trans f.dp he, PyData.shown_fits (B := 13) (by decide) (by decide) f.lv (Nat.le_trans f.wt (Nat.le_trans hw (Nat.le_of_ble_eq_true rfl)))⟩
theorem Yd.p {d : D} {p : PyData} (e : pd d = some p) (h : (p.hasDict == false && (p.showable && (decide (p.depth ≤ 50) && decide (p.shown.length ≤ 1000)))) = true) : Yd d := by
  rw [Bool.and_eq_true, Bool.and_eq_true, Bool.and_eq_true] at h
  exact .inl ⟨p, e, beq_iff_eq.mp h.1, h.2.1, of_decide_eq_true h.2.2.1, Nat.le_trans (of_decide_eq_true h.2.2.2) (by rw [sizeLine_eq]; decide)⟩
/-- what repr gives -/
@[irreducible] def shY (d : D) : Str := match pd d with
  | some p => p.shown
  | none => match pdR d with
    | some p => p.shown
    | none => Str.empty
mutual
/-- where both read a tree, they read the same -/
theorem pdR_pd : ∀ {d : D} {p q : PyData}, pd d = some p → pdR d = some q → q = p
  | .non, p, q, h1, h2 => by cases h1; cases h2; rfl
  | .bl _, p, q, h1, h2 => by cases h1; cases h2; rfl
  | .int _, p, q, h1, h2 => by cases h1; cases h2; rfl
  | .str _, p, q, h1, h2 => by cases h1; cases h2; rfl
  | .tup xs, p, q, h1, h2 => by
    unfold pd at h1
    unfold pdR at h2
    cases e1 : pds xs with
    | none => rw [e1] at h1; cases h1
    | some ps =>
      cases e2 : pdRs xs with
      | none => rw [e2] at h2; cases h2
      | some qs =>
        rw [e1] at h1
        rw [e2] at h2
        cases h1
        cases h2
        rw [pdRs_pds e1 e2]
  | .lst xs, p, q, h1, h2 => by unfold pdR at h2; cases h2
  | .dct [], p, q, h1, h2 => by unfold pd at h1; cases h1
  | .dct (_ :: _), p, q, h1, h2 => by unfold pd at h1; cases h1
  | .ty _, p, q, h1, h2 => by unfold pd at h1; cases h1
  | .lsk _, p, q, h1, h2 => by unfold pd at h1; cases h1
  | .ins _ _, p, q, h1, h2 => by unfold pd at h1; cases h1
  | .cls _, p, q, h1, h2 => by unfold pd at h1; cases h1
  | .fn _, p, q, h1, h2 => by unfold pd at h1; cases h1
  | .ptr _, p, q, h1, h2 => by unfold pd at h1; cases h1
  | .adr _, p, q, h1, h2 => by unfold pd at h1; cases h1
theorem pdRs_pds : ∀ {ds : List D} {ps qs : List PyData}, pds ds = some ps → pdRs ds = some qs → qs = ps
  | [], ps, qs, h1, h2 => by cases h1; cases h2; rfl
  | d :: ds, ps, qs, h1, h2 => by
    unfold pds at h1
    unfold pdRs at h2
    cases e1 : pd d with
    | none => rw [e1] at h1; cases h1
    | some p =>
      cases e2 : pds ds with
      | none => rw [e1, e2] at h1; cases h1
      | some ps' =>
        cases e3 : pdR d with
        | none => rw [e3] at h2; cases h2
        | some q =>
          cases e4 : pdRs ds with
          | none => rw [e3, e4] at h2; cases h2
          | some qs' =>
            rw [e1, e2] at h1
            rw [e3, e4] at h2
            cases h1
            cases h2
            rw [pdR_pd e1 e3, pdRs_pds e2 e4]
end
section
variable {B : Bs} {k : Nat} {S0 : Sto} {Ex : XS} {Q : QO}
end
end Dt

set_option Elab.async false
set_option linter.all false
set_option maxRecDepth 100000
set_option maxHeartbeats 8000000
/-! DatZ9: o[a:c] = list -/
namespace Dt
open PySem PySem.Spec PyProof.Rows L2 My He SX
section
variable {G : Cf} {X : Cx} {en : En} {W W1 : Wd} {σ : L2.St} {H H1 : Hp} {ρ : List Sl} {S S1 : Sto} {pins : List (Addr × Obj)} {s s1 : Shared} {e a : Expr} {lo hi : Option Expr} {ta tv : RE} {tl th : RO} {pos pos' p2 : Pos}
end
end Dt

set_option Elab.async false
set_option linter.all false
set_option maxRecDepth 100000
set_option maxHeartbeats 8000000
/-! DatZA: x(lambda: body) on trees -/
namespace Dt
open PySem PySem.Spec PyProof.Rows L2 My He SX LamX
section
variable {X : Cx} {pins : List (Addr × Obj)} {σ : L2.St} {H : Hp} {s : Shared}
/-- what stands where a lambda was made -/
structure Made (X : Cx) (pins : List (Addr × Obj)) (σ : L2.St) (H : Hp) (P : Addr) (q : Str) (params : Arguments) (body : Expr) (scope : Scope) (ps : Array Value) (f c' : Addr) (pm ctv : Value) (H1 : Hp) (s' : Shared) (qs : Array Value) : Prop where
  I : Inv X pins σ H1 s'
  how : (H1 = H ∧ qs = ps ∧ ∃ pos : Pos, codeAmong pos ps.toList = some (.ref c')) ∨ (H c' = none ∧ H1 = upd (upd H P (.tbl qs)) c' (CodeO c' q))
  ok : TriplesOk qs.toList
  src : ∀ (pos : Pos) (cv : Value), codeAmong pos qs.toList = some cv → codeAmong pos ps.toList = some cv ∨ cv = .ref c'
  obj : s'.heap.get? f = some (PySem.W.kla_obj "<lambda>" q params body scope (cloFrom X.env.cells scope.names []) pm c' ctv)
  off : H1 f = none
  fr : f ∉ frs X.stack
  co : H1 c' = some (CodeO c' q)
end
end Dt

set_option Elab.async false
set_option linter.all false
set_option maxRecDepth 100000
set_option maxHeartbeats 8000000
/-! DatZB: the def that is handed a lambda; the lambda called -/
namespace Dt
open PySem PySem.Spec PyProof.Rows L2 My He SX LamX
/-- a lambda as the def sees it: its address, what a call of it gives -/
structure Act (B : Bs) (k : Nat) where
  f : Addr
  t : Sto → XS → QO → Prop
  axm : Axm
  run : ∀ {X : Cx} {en : En} {W : Wd} {σ : L2.St} {H : Hp} {S : Sto} {Ex : XS} {Q : QO} {pins : List (Addr × Obj)} {s : Shared} (p : Pos), axm.ax X en → FitsB B (k + 1) X en → Takes X (XN B.K W H σ Ex) → Ho B.K W H S → Go en.W en.H W H → Inv X pins σ H s → t S Ex Q →
    wpAny (model X.prog X.w) X.A (callWith p (.ref f) [] [] []) (EP X pins σ (Nx B.K en W H Q)) X.xe s
section
variable {B : Bs} {k i : Nat} {Ng : List Str} {sg : Scope} {a : Str} {p1 p2 : Pos}
end
section
variable {G : Cf} {X : Cx} {en : En} {W W1 : Wd} {σ : L2.St} {H H1 : Hp} {ρ : List Sl} {S S1 : Sto} {E : XD} {pins : List (Addr × Obj)} {s s1 : Shared} {k : Nat} {params : Arguments} {body : Expr} {scope : Scope} {te : RE} {q : Str} {f c' : Addr} {pm ctv : Value}
end
end Dt

set_option Elab.async false
set_option linter.all false
set_option maxRecDepth 100000
set_option maxHeartbeats 8000000
/-! DatZC: x(lambda: body), read -/
namespace Dt
open PySem PySem.Spec PyProof.Rows L2 My He SX LamX
section
variable {G : Cf} {k : Nat} {g c P : Addr} {params pg : Arguments} {body : Expr} {scope sg : Scope} {bg : List Stmt} {x a q : Str} {kws : List (Str × V)} {fd : FuncData} {Ng : List Str} {te : RE} {p lpos pos : Pos}
end
end Dt

set_option Elab.async false
set_option linter.all false
set_option maxRecDepth 100000
set_option maxHeartbeats 8000000
/-! DatZD: defs that make lambdas; the handled error handed to a def -/
namespace Dt
open PySem PySem.Spec PyProof.Rows L2 My He SX LamX
section
variable {B : Bs} {x qual : Str} {params : Arguments} {body : List Stmt} {scope : Scope} {dvs : List V} {kws : List (Str × V)} {fd : FuncData} {N ps ks : List Str} {ok : List D → List D → Prop} {ar : List D → List D → List D} {t : RS} {S : Sto} {Ex : XS} {Q : QO} {ρ0 : List Sl}
end
section
variable {G : Cf} {i k : Nat} {g : Addr} {pg : Arguments} {sg : Scope} {bg : List Stmt} {x y a : Str} {kws : List (Str × V)} {fd : FuncData} {Ng : List Str} {t : RS} {p p1 pos : Pos}
end
end Dt

set_option Elab.async false
set_option linter.all false
set_option maxRecDepth 100000
set_option maxHeartbeats 8000000
/-! DatZE: the law's end where defs make lambdas: their tables are cells of the store -/
namespace Dt
open PySem PySem.Spec PyProof.Rows L2 My He SX LamX
/-- a maker: its code object, the table, its lambdas' name -/
abbrev Mkr := (Addr × Addr) × Str
section
variable {P : Program} {w : World} {K : PySem.W.Frag} {mg mb : Str → Option Value} {k n : Nat} {fa a : Addr} {t : Shared} {vs : List Value} {ns : List Int} {H : Hp} {cs : List Mkr}
end
end Dt

set_option Elab.async false
set_option linter.all false
set_option maxRecDepth 100000
set_option maxHeartbeats 8000000
/-! DatZF: the law's end with lambdas, from the script as it lies -/
namespace Dt
open PySem PySem.Spec PyProof.Rows L2 My He SX LamX
end Dt

set_option Elab.async false
set_option linter.all false
set_option maxRecDepth 100000
set_option maxHeartbeats 8000000
/-! DatZG: list(zip(a, b)) of two lists -/
namespace Dt
open PySem PySem.Spec PySem.Calls PyProof.Rows L2 My He SX
/-- the zip's own state while the new list S grows -/
def ZlSt (S z TI TO i1 i2 l1 l2 : Addr) (xs ys : Array Value) (i : Nat) (h : Heap) : Prop :=
  IsPair h TI (.ref i1) (.ref i2) ∧ h.IsListIter i1 l1 i ∧ h.IsListIter i2 l2 i ∧ h.IsList l1 xs ∧ h.IsList l2 ys ∧
    ((IsZip h z TI TO .none ∧ ∃ a b, IsPair h TO a b) ∨ ∃ T f oT, IsZipHeld h z TI TO T f ∧ h.get? T = some oT ∧ T ≠ z ∧ T ≠ i1 ∧ T ≠ i2 ∧ T ≠ S)
structure ZlG (xs ys : Array Value) (lo : Addr) (h : Heap) (as : List Addr) : Prop where
  rise : as.Pairwise (· < ·)
  above : ∀ a ∈ as, lo < a
  pairs : ∀ (j : Nat) (a : Addr), as[j]? = some a → ∃ x y, xs[j]? = some x ∧ ys[j]? = some y ∧ IsPair h a x y
structure ZlN (S z TI TO i1 i2 l1 l2 : Addr) : Prop where
  z : z < S
  TI : TI < S
  TO : TO < S
  i1 : i1 < S
  i2 : i2 < S
  l1 : l1 < S
  l2 : l2 < S
section
variable {prog : Program} {w : World} {A : Around} {E : Value → Shared → Prop} {s : Shared} {S z TI TO i1 i2 l1 l2 : Addr} {xs ys : Array Value} {i : Nat}
theorem ZlG.there {lo : Addr} {h : Heap} {as : List Addr} (g : ZlG xs ys lo h as) {a : Addr} (ha : a ∈ as) : a < h.objs.size := by
  obtain ⟨j, hj⟩ := List.mem_iff_getElem?.mp ha
  obtain ⟨_, _, _, _, e⟩ := g.pairs j a hj
  exact Heap.lt_size e
theorem ZlSt.keep {h h' : Heap} (x : ZlSt S z TI TO i1 i2 l1 l2 xs ys i h) (n : ZlN S z TI TO i1 i2 l1 l2) (hk : ∀ b o, b ≠ S → h.get? b = some o → h'.get? b = some o) : ZlSt S z TI TO i1 i2 l1 l2 xs ys i h' := by
  obtain ⟨hTI, h1, h2, hl1, hl2, hz⟩ := x
  refine ⟨hk _ _ (Nat.ne_of_lt n.TI) hTI, h1.at fun o e => hk _ o (Nat.ne_of_lt n.i1) e, h2.at fun o e => hk _ o (Nat.ne_of_lt n.i2) e, hl1.at fun o e => hk _ o (Nat.ne_of_lt n.l1) e, hl2.at fun o e => hk _ o (Nat.ne_of_lt n.l2) e, ?_⟩
  rcases hz with ⟨hz, a, b, hTO⟩ | ⟨T, f, oT, hz, hT, r1, r2, r3, r4⟩
  · exact .inl ⟨hk _ _ (Nat.ne_of_lt n.z) hz, a, b, hk _ _ (Nat.ne_of_lt n.TO) hTO⟩
  · exact .inr ⟨T, f, oT, hk _ _ (Nat.ne_of_lt n.z) hz, hk _ _ r4 hT, r1, r2, r3, r4⟩
end
section
variable {X : Cx} {pins : List (Addr × Obj)} {σ : L2.St} {s : Shared}
end
section
variable {K : PySem.W.Frag} {S : Sto}
end
section
variable {G : Cf} {a b : Expr} {tA : RA} {p p2 pos pos2 : Pos}
end
end Dt

set_option Elab.async false
set_option linter.all false
set_option maxRecDepth 100000
set_option maxHeartbeats 8000000
/-! DatZH: a comprehension over the keys of an own dict (locked while it runs) -/
namespace Dt
open PySem PySem.Spec PyProof.Rows L2 My He SX
/-- J walks xs from here on, as long as nothing but ours changes -/
structure WkG (K : PySem.W.Frag) (W : Wd) (H : Hp) (J : It) (xs : List D) : Prop where
  go : ∀ (i : Nat) W' H' S', Go W H W' H' → Ho K W' H' S' → i < xs.length → J.go i H'
  yl : ∀ (i : Nat) W' H' S' x H2, Go W H W' H' → Ho K W' H' S' → i < xs.length → J.yld i H' x H2 → ∃ d W2, xs[i]? = some d ∧ Ho K W2 H2 S' ∧ Go W' H' W2 H2 ∧ Rep K W2 d x
  st : ∀ (i : Nat) W' H' S', Go W H W' H' → Ho K W' H' S' → xs.length ≤ i → J.stop i H'
section
variable {G : Cf} {X : Cx} {en : En} {W W1 : Wd} {σ : L2.St} {H H1 : Hp} {ρ : List Sl} {S S1 : Sto} {pins : List (Addr × Obj)} {s s1 : Shared} {e a b c o tg : Expr} {pos p : Pos} {x : Str}
/-- the keys of the locked own dict at d -/
theorem RepK.key {K : PySem.W.Frag} {W : Wd} : ∀ {xs : List (Key × D)} {vs : List (Key × V)}, RepK K W xs vs → xs.map (·.1) = vs.map (·.1)
  | _, _, .nil => rfl
  | _, _, .cons _ t => by rw [List.map_cons, List.map_cons, t.key]
theorem rep_kD {K : PySem.W.Frag} {W : Wd} (k : Key) : Rep K W (kD k) (kV k) := by
  cases k with
  | inl i => exact .int i
  | inr x => exact .str x
end
end Dt

set_option Elab.async false
set_option linter.all false
set_option maxRecDepth 100000
set_option maxHeartbeats 8000000
/-! DatZI: comprehensions over dicts of the store: keys, values, pairs (the dict is locked while they run) -/
namespace Dt
open PySem PySem.Spec PyProof.Rows L2 My He SX
/-- J walks xs from here on, while C0 holds of the store -/
structure WkC (K : PySem.W.Frag) (W : Wd) (H : Hp) (J : It) (xs : List D) (C0 : Sto → Prop) : Prop where
  go : ∀ (i : Nat) W' H' S', Go W H W' H' → Ho K W' H' S' → C0 S' → i < xs.length → J.go i H'
  yl : ∀ (i : Nat) W' H' S' x H2, Go W H W' H' → Ho K W' H' S' → C0 S' → i < xs.length → J.yld i H' x H2 → ∃ d W2, xs[i]? = some d ∧ Ho K W2 H2 S' ∧ Go W' H' W2 H2 ∧ Rep K W2 d x
  st : ∀ (i : Nat) W' H' S', Go W H W' H' → Ho K W' H' S' → C0 S' → xs.length ≤ i → J.stop i H'
/-- the turns that are left, C0 at each -/
def LcC (C0 : Sto → Prop) (g : RG) (tt : RT) (te : RE) (ρ : List Sl) : List D → List D → Sto → (List D → Sto → Prop) → Prop
  | [], acc, S, Q => C0 S ∧ Q acc S
  | x :: xs, acc, S, Q => C0 S ∧ (g x ρ S noE fun ρ' S' => tt ρ' S' noE fun c S2 => if c = true then te ρ' S2 noE fun o S3 => ∃ d, o = .v d ∧ acc.length < sizeLine ∧ LcC C0 g tt te ρ xs (acc ++ [d]) S3 Q else LcC C0 g tt te ρ xs acc S2 Q)
theorem LcC.now {C0 : Sto → Prop} {g : RG} {tt : RT} {te : RE} {ρ : List Sl} {S : Sto} {Q : List D → Sto → Prop} : ∀ {xs acc : List D}, LcC C0 g tt te ρ xs acc S Q → C0 S
  | [], _, h => h.1
  | _ :: _, _, h => h.1
/-- one that reads no state -/
theorem lcC_pure {C0 : Sto → Prop} {g : RG} {tt : RT} {te : RE} {ρ : List Sl} {S : Sto} {xs : List D} {R : List D → Sto → Prop} (p : D → Bool) (f : D → D) (hC : C0 S) (hz : xs.length ≤ 1000000) (hs : ∀ x, x ∈ xs → ∀ (X : QO) (Y : Sto → Prop), (p x = true → X (.v (f x)) S) → (p x = false → Y S) →
      g x ρ S noE fun ρ' S' => tt ρ' S' noE fun c S2 => if c = true then te ρ' S2 noE X else Y S2) (hd : R ((xs.filter p).map f) S) : LcC C0 g tt te ρ xs [] S R := by
  have key : ∀ (xs acc : List D), acc.length + xs.length ≤ 1000000 → (∀ x, x ∈ xs → ∀ (X : QO) (Y : Sto → Prop), (p x = true → X (.v (f x)) S) → (p x = false → Y S) →
      g x ρ S noE fun ρ' S' => tt ρ' S' noE fun c S2 => if c = true then te ρ' S2 noE X else Y S2) → R (acc ++ (xs.filter p).map f) S → LcC C0 g tt te ρ xs acc S R := by
    intro xs
    induction xs with
    | nil =>
      intro acc _ _ hd
      have hd2 : R acc S := by simpa using hd
      exact ⟨hC, hd2⟩
    | cons y ys ih =>
      intro acc hz hs hd
      rw [List.length_cons] at hz
      refine ⟨hC, hs y (.head _) _ _ (fun c => ⟨f y, rfl, by rw [sizeLine_eq]; omega, ?_⟩) fun c => ?_⟩
      · refine ih (acc ++ [f y]) (by rw [List.length_append]; show acc.length + 1 + ys.length ≤ _; omega) (fun x hx => hs x (.tail _ hx)) ?_
        rw [List.filter_cons, if_pos c, List.map_cons] at hd
        rw [List.append_assoc]
        exact hd
      · refine ih acc (by omega) (fun x hx => hs x (.tail _ hx)) ?_
        rwa [List.filter_cons, if_neg (by rw [c]; exact Bool.false_ne_true)] at hd
  exact key xs [] (by simpa using hz) hs (by simpa using hd)
section
variable {G : Cf} {X : Cx} {en : En} {W W1 : Wd} {σ : L2.St} {H H1 : Hp} {ρ : List Sl} {S S1 : Sto} {pins : List (Addr × Obj)} {s s1 : Shared} {e a b c o tg iter : Expr} {pos p apos cpos : Pos} {x : Str}
theorem lc_turnsR {elt : Expr} {ifs : List Expr} {scope : Scope} {own : List (Str × Nat)} {ws : List Nat} {g : RG} {tt : RT} {te : RE} {Q : List D → Sto → Prop} {J : It} {xs : List D} {C0 : Sto → Prop} (hc : G.B.cal = false) (hw : ∀ j, j ∈ ws → j ∈ own.map (·.2)) (hg : DG (G.blk scope) tg ws g) (ht : DTs (G.blk scope) ifs tt) (he : DE (G.blk scope) elt te) (hf : Fits G X en) (rs : Rs G.B.K en W1 σ H1 ρ S1)
    (wk : WkC G.B.K W1 H1 J xs C0) (q1 : LcC C0 g tt te (wipeS ρ (own.map (·.2))) xs [] S1 Q) (L : Addr) (hL : H1 L = none) : ∃ Wv : Nat → Nat → Hp → Prop, (∃ m, Wv 0 m (upd H1 L (.lst []))) ∧ ∀ i m H, Wv i m H →
  (J.stop i H ∧ ∃ W2 vs xs S2, H L = some (.lst vs) ∧ Reps G.B.K W2 xs vs ∧ Ho G.B.K W2 H S2 ∧ Go W1 H1 W2 H ∧ W2.F L = none ∧ (∀ i, i < W2.n → W2.m i ≠ L) ∧ C0 S2 ∧ Q xs S2) ∨ (J.go i H ∧ ∃ Nx : Hp → Prop, (∀ H', Nx H' → ∃ m', m' < m ∧ Wv (i + 1) m' H') ∧ ∀ x H', J.yld i H x H' → tGb X scope tg x (L2.wipe σ (own.map (·.2))) H' fun σ2 H2 => L2.wipe σ2 (own.map (·.2)) = L2.wipe σ (own.map (·.2)) ∧ tTb X scope ifs σ2 H2 fun b H3 =>
    if b = true then tEb X scope elt σ2 H3 fun y H4 => ∃ acc, H4 L = some (.lst acc) ∧ acc.length < sizeLine ∧ Nx (upd H4 L (.lst (acc ++ [y]))) else Nx H3) := by
  have r1 := rs.wipe (own.map (·.2))
  have h1 := rs.ho
  have nm : ∀ i, i < W1.n → W1.m i ≠ L := fun i hi c => by
    obtain ⟨u2, e2⟩ := h1.there i hi
    rw [c, hL] at e2
    cases e2
  have nE : en.H L = none := by
    have g0 := rs.go
    cases y : en.H L with
    | none => rfl
    | some u =>
      by_cases c : ∃ i, i < en.W.n ∧ en.W.m i = L
      · obtain ⟨i, hi, c⟩ := c
        rw [← g0.le.m i hi] at c
        exact (nm i (Nat.lt_of_lt_of_le hi g0.le.n) c).elim
      · have := g0.kp L u y fun i hi k => c ⟨i, hi, k⟩
        rw [hL] at this
        cases this
  have w0 : Own en W1 (upd H1 L (.lst [])) L := ⟨h1.nF hL, nE, nm⟩
  have w1 : Own en W1 H1 L := ⟨h1.nF hL, nE, nm⟩
  refine ⟨fun i m H' => m = xs.length - i ∧ i ≤ xs.length ∧ ∃ W' S' acc vs, H' L = some (.lst vs) ∧ Reps G.B.K W' acc vs ∧ Ho G.B.K W' H' S' ∧ Go W1 H1 W' H' ∧ Own en W' H' L ∧ LcC C0 g tt te (wipeS ρ (own.map (·.2))) (xs.drop i) acc S' Q,
    ⟨xs.length, by simp, Nat.zero_le _, W1, S1, [], [], upd_same, .nil, h1.own_put w1, Go.own_put .refl hL, w0, by simpa using q1⟩, ?_⟩
  rintro i m H2 ⟨rfl, hi, W2, S2, acc, vs, eL, ra, h2, g2, w2, q2⟩
  by_cases hlt : i < xs.length
  · refine .inr ⟨wk.go i W2 H2 S2 g2 h2 (LcC.now q2) hlt, fun H' => ∃ W' S' acc vs, H' L = some (.lst vs) ∧ Reps G.B.K W' acc vs ∧ Ho G.B.K W' H' S' ∧ Go W1 H1 W' H' ∧ Own en W' H' L ∧ LcC C0 g tt te (wipeS ρ (own.map (·.2))) (xs.drop (i + 1)) acc S' Q, fun H' k => ⟨_, by omega, rfl, hlt, k⟩, fun x H3 y => ?_⟩
    obtain ⟨d, W3, ed, h3, g3, rd⟩ := wk.yl i W2 H2 S2 x H3 g2 h2 (LcC.now q2) hlt y
    rw [List.drop_eq_getElem_cons hlt] at q2
    replace q2 := q2.2
    have e2 : xs[i] = d := by
      rw [List.getElem?_eq_getElem hlt] at ed
      exact Option.some.inj ed
    rw [e2] at q2
    intro s0 H0 C cl fp pins3 s3 u I3 ru
    have ef : Fits (G.blk scope) (X.blk s0 H0 scope (compEnvC scope cl C X.env) fp) en := hf.blk hc
    have z3 : At (G.blk scope) (X.blk s0 H0 scope (compEnvC scope cl C X.env) fp) en W3 (L2.wipe σ (own.map (·.2))) H3 (wipeS ρ (own.map (·.2))) S2 noE pins3 s3 := ⟨ef, takes_no, (r1.after h2 g2).after h3 g3, I3⟩
    refine thn (hg.run z3 rd ru q2) fun _ s4 ⟨σ4, H4, W4, ρ4, S4, z4, ⟨l4, q4⟩, ⟨k4, n4⟩, g4⟩ => ⟨σ4, H4, z4.I, ?_, ?_⟩
    · have e1 := wipe_eq (own.map (·.2)) n4 fun j hj => k4 j fun c => hj (hw j c)
      rw [e1]
      exact wipe_eq _ (wipe_length _ _) fun j hj => wipe_out hj
    · intro s01 H01 C1 cl1 fp1 pins5 s5 I5
      have ef1 : Fits (G.blk scope) (X.blk s01 H01 scope (compEnvC scope cl1 C1 X.env) fp1) en := hf.blk hc
      have z5 : At (G.blk scope) (X.blk s01 H01 scope (compEnvC scope cl1 C1 X.env) fp1) en W4 σ4 H4 ρ4 S4 noE pins5 s5 := ⟨ef1, takes_no, z4.rs, I5⟩
      refine thn (ht.run z5 q4) fun b s6 ⟨H6, I6, W6, S6, h6, g6, q6⟩ => ⟨H6, I6, ?_⟩
      have g26 : Go W2 H2 W6 H6 := ((g3.trans g4 z4.rs.ho).trans g6 h6)
      cases b with
      | false =>
        simp only [Bool.false_eq_true, if_false] at q6 ⊢
        exact ⟨W6, S6, acc, vs, g26.kp L _ eL w2.m, ra.le g26.le, h6, g2.trans g26 h6, w2.go g26 eL, q6⟩
      | true =>
        simp only [if_true] at q6 ⊢
        intro s02 H02 C2 cl2 fp2 pins7 s7 I7
        have ef2 : Fits (G.blk scope) (X.blk s02 H02 scope (compEnvC scope cl2 C2 X.env) fp2) en := hf.blk hc
        have z7 : At (G.blk scope) (X.blk s02 H02 scope (compEnvC scope cl2 C2 X.env) fp2) en W6 σ4 H6 ρ4 S6 noE pins7 s7 := ⟨ef2, takes_no, z5.rs.after h6 g6, I7⟩
        refine thn (he.run z7 q6) fun v8 s8 ⟨x8, H8, I8, r8, W8, o8, S8, h8, g8, ro8, d8, eo, hz, q8⟩ => ?_
        subst eo
        have g28 := g26.trans g8 h8
        have eL8 := g28.kp L _ eL w2.m
        have w8 := w2.go g28 eL
        refine ⟨x8, H8, I8, r8, vs, eL8, by rw [ra.len]; exact hz, W8, S8, acc ++ [d8], vs ++ [x8], upd_same, (ra.le g28.le).app (.cons ro8 .nil), h8.own_put w8, Go.own_put (g2.trans g28 h8) hL, ⟨w8.f, w8.e, w8.m⟩, q8⟩
  · have e : i = xs.length := by omega
    subst e
    rw [List.drop_length] at q2
    have c2 := q2.1
    replace q2 := q2.2
    exact .inl ⟨wk.st _ W2 H2 S2 g2 h2 c2 (Nat.le_refl _), W2, vs, acc, S2, eL, ra, h2, g2, w2.f, w2.m, c2, q2⟩
abbrev RL := List Sl → Sto → XD → (Nat → List (Key × D) → List D → Sto → Prop) → Prop
/-- an iteration over a dict of the store -/
structure DIL (G : Cf) (tg iter : Expr) (t : RL) : Prop where
  run : ∀ {X en W σ H ρ S E pins s} {Q : Nat → List (Key × D) → List D → Sto → Prop}, At G X en W σ H ρ S E pins s → t ρ S E Q →
    wpAny (model X.prog X.w) X.A (eval iter X.env) (fun v s1 => wpAny (model X.prog X.w) X.A (pyIter v) (PIE X pins σ tg fun J H' => ∃ W' S1 p kvs vs od xs, Ho G.B.K W' H' (S1.set p (.lck (.frz od (.dK vs)) kvs)) ∧ Go W H W' H' ∧
      WkC G.B.K W' H' J xs (fun S' => S'[p]? = some (.lck (.frz od (.dK vs)) kvs)) ∧ p < W'.n ∧ (∀ o' u', X.H_0 (W'.m p) ≠ some (.frz o' u')) ∧ Q p kvs xs S1) X.xe s1) X.xe s
/-- what a locked dict of the store gives to its walks -/
theorem lck_at {K : PySem.W.Frag} {i : Nat} {od : Obj} {vs : List (Key × V)} {kvs : List (Key × D)} (ho : Ho K W H S) (h : S[i]? = some (.lck (.frz od (.dK vs)) kvs)) : H (W.m i) = some (.frz od (.dK vs)) ∧ RepK K W kvs vs := by
  obtain ⟨e, od', vs', e2, r⟩ := ho.cel i _ h
  cases e2
  exact ⟨e, r⟩
theorem RepK.len2 {K : PySem.W.Frag} {kvs : List (Key × D)} {vs : List (Key × V)} (r : RepK K W kvs vs) : kvs.length = vs.length := by
  have := congrArg List.length r.key
  rwa [List.length_map, List.length_map] at this
end
end Dt

set_option Elab.async false
set_option linter.all false
set_option maxRecDepth 100000
set_option maxHeartbeats 8000000
/-! DatZJ: in of a tuple of data, in by an own __contains__, count of truth values -/
namespace L2
open PySem PySem.Spec PyProof.Rows
def rNotInDT (K : PySem.W.Frag) : R2 := fun x y H Q => ∃ (d : PyData) (ds : List PyData), Dp K H x d ∧ Dp K H y (.tuple ds) ∧ SeqAt.shaped d = true ∧ SeqAt.shaped (.tuple ds) = true ∧ Q (.bl (!ds.any fun z => PyData.eqv z d)) H
variable {X : Cx}
theorem op_notInDT (hu : X.A.units + 65 < cLine) : OpR X (compareOp .NotIn) (rNotInDT X.K) := by
  intro pins s σ H x y v u Q I rx ry h
  obtain ⟨d, ds, hd, he, sd, se, q⟩ := h
  obtain ⟨as, r1⟩ := Dp.reads I d x v hd rx
  obtain ⟨bs, r2⟩ := Dp.reads I (.tuple ds) y u he ry
  exact SeqAt.notIn_tuple_reads r2 r1 (SeqAt.canLay_of_shaped se) (SeqAt.canLay_of_shaped sd) (room_in_shaped sd hu) ⟨.bl _, H, I, rfl, q⟩
inductive BlsAre : List Value → List Bool → Prop
  | nil : BlsAre [] []
  | cons (b : Bool) {us : List Value} {ns : List Bool} (h : BlsAre us ns) : BlsAre (.bool b :: us) (b :: ns)
end L2
namespace Dt
open PySem PySem.Spec PySem.W PyProof.Rows L2 My He SX
variable {B : Bs} {k : Nat} {S : Sto} {Ex : XS} {Q : QO} {C : Str} {fs : List (Str × D)} {d e : D} {f : Addr} {o p : O}
theorem s_notInTp {e : PyData} {es : List PyData} (h1 : PdO S o e) (h2 : PdO S p (.tuple es)) (s1 : SeqAt.shaped e = true) (s2 : SeqAt.shaped (.tuple es) = true) (q : Q (.v (.bl (!es.any fun z => PyData.eqv z e))) S) : sem2 B k (compareOp .NotIn) o p S Ex Q :=
  lift2 (r := rNotInDT B.K) (fun {X en} ft => by
    have z := op_notInDT (X := X) (by have := ft.rm.un; omega)
    rw [ft.K] at z
    exact z) fun en W H x' y' ho rx ry => ⟨e, es, pdO_dp ho h1 rx, pdO_dp ho h2 ry, s1, s2, nx ho (.bl _) q⟩
end Dt

set_option Elab.async false
set_option linter.all false
set_option maxRecDepth 100000
set_option maxHeartbeats 8000000
/-! DatZK: data that is small enough to be compared and shown; equality of lists of data by their items -/
namespace Dt
open PySem PySem.Spec PyProof.Rows L2 My He SX
/-- depth at most n, weight at most w, its numbers' texts at most b long -/
structure Fine (n w b : Nat) (p : PyData) : Prop where
  lay : p.canLay0 = true
  dep : p.depth ≤ n
  shw : p.showable = true
  wt : p.weight ≤ w
  lf : p.leavesShort b = true
theorem Fine.mono {n w b m u : Nat} {p : PyData} (h : Fine n w b p) (h1 : n ≤ m) (h2 : w ≤ u) : Fine m u b p := ⟨h.lay, Nat.le_trans h.dep h1, h.shw, Nat.le_trans h.wt h2, h.lf⟩
theorem fp_str {n w b : Nat} {x : Str} (h : PyData.strOk x = true) (hw : x.cps.size ≤ w) : Fine n w b (.str x) where
  lay := h
  dep := Nat.zero_le _
  shw := rfl
  wt := hw
  lf := by
    have := PyData.leavesShort_of_canLay0 b (.str x) h rfl
    exact this
theorem fps_lay {n w b : Nat} : ∀ {xs : List PyData}, (∀ x ∈ xs, Fine n w b x) → PyData.canLayAll0 xs = true
  | [], _ => rfl
  | x :: xs, h => by
    show (PyData.canLay0 x && PyData.canLayAll0 xs) = true
    rw [(h x (.head _)).lay, fps_lay fun y hy => h y (.tail _ hy)] <;> rfl
theorem fps_dep {n w b : Nat} : ∀ {xs : List PyData}, (∀ x ∈ xs, Fine n w b x) → PyData.depthAll xs ≤ n
  | [], _ => Nat.zero_le _
  | x :: xs, h => Nat.max_le.mpr ⟨(h x (.head _)).dep, fps_dep fun y hy => h y (.tail _ hy)⟩
theorem fps_shw {n w b : Nat} : ∀ {xs : List PyData}, (∀ x ∈ xs, Fine n w b x) → PyData.showableAll xs = true
  | [], _ => rfl
  | x :: xs, h => by
    show (PyData.showable x && PyData.showableAll xs) = true
    rw [(h x (.head _)).shw, fps_shw fun y hy => h y (.tail _ hy)] <;> rfl
theorem fps_wt {n w b : Nat} : ∀ {xs : List PyData}, (∀ x ∈ xs, Fine n w b x) → PyData.weightAll xs ≤ xs.length * (w + 1)
  | [], _ => Nat.zero_le _
  | x :: xs, h => by
    have h1 := (h x (.head _)).wt
    have h2 := fps_wt fun y hy => h y (.tail _ hy)
    show PyData.weight x + 1 + PyData.weightAll xs ≤ _
    rw [List.length_cons, Nat.add_mul]
    omega
theorem fps_lf {n w b : Nat} : ∀ {xs : List PyData}, (∀ x ∈ xs, Fine n w b x) → PyData.leavesShortAll b xs = true
  | [], _ => rfl
  | x :: xs, h => by
    show (PyData.leavesShort b x && PyData.leavesShortAll b xs) = true
    rw [(h x (.head _)).lf, fps_lf fun y hy => h y (.tail _ hy)] <;> rfl
theorem Fine.list {n w b u : Nat} {xs : List PyData} (h : ∀ x ∈ xs, Fine n w b x) (hu : xs.length * (w + 1) ≤ u) : Fine (n + 1) u b (.list xs) :=
  ⟨fps_lay h, Nat.succ_le_succ (fps_dep h), fps_shw h, Nat.le_trans (fps_wt h) hu, fps_lf h⟩
theorem Fine.tuple {n w b u : Nat} {xs : List PyData} (h : ∀ x ∈ xs, Fine n w b x) (hu : xs.length * (w + 1) ≤ u) : Fine (n + 1) u b (.tuple xs) :=
  ⟨fps_lay h, Nat.succ_le_succ (fps_dep h), fps_shw h, Nat.le_trans (fps_wt h) hu, fps_lf h⟩
theorem Fine.shaped {n w b : Nat} {p : PyData} (h : Fine n w b p) (hn : n ≤ 64) : SeqAt.shaped p = true := by
  unfold SeqAt.shaped
  rw [h.lay, Bool.true_and]
  exact decide_eq_true (Nat.le_trans h.dep hn)
theorem Fine.nd {n w b : Nat} {p : PyData} (h : Fine n w b p) : p.hasDict = false := PyData.hasDict_of_canLay p h.lay
theorem Fine.fits {n w b : Nat} {p : PyData} (h : Fine n w b p) (hb : 8 ≤ b) (hw : (b + 2) * w + b ≤ 16777216) : p.shown.length ≤ sizeLine := by
  rw [sizeLine_eq]
  refine Nat.le_trans (PyData.shown_le b hb p h.lf) (Nat.le_trans ?_ hw)
  have := Nat.mul_le_mul_left (b + 2) h.wt
  omega
theorem fps_ints : ∀ ks : List Int, PyData.canLayAll0 (ks.map .int) = true ∧ PyData.depthAll (ks.map .int) = 0
  | [] => ⟨rfl, rfl⟩
  | k :: ks => ⟨(fps_ints ks).1, by
    show max 0 (PyData.depthAll (ks.map .int)) = 0
    rw [(fps_ints ks).2] <;> rfl⟩
theorem shp_int (i : Int) : SeqAt.shaped (.int i) = true := by rfl
theorem shp_intsL (ks : List Int) : SeqAt.shaped (.list (ks.map .int)) = true := by
  unfold SeqAt.shaped
  rw [show PyData.canLay0 (.list (ks.map .int)) = PyData.canLayAll0 (ks.map .int) from rfl, (fps_ints ks).1, show PyData.depth (.list (ks.map .int)) = PyData.depthAll (ks.map .int) + 1 from rfl, (fps_ints ks).2] <;> rfl
theorem shp_intsT (ks : List Int) : SeqAt.shaped (.tuple (ks.map .int)) = true := by
  unfold SeqAt.shaped
  rw [show PyData.canLay0 (.tuple (ks.map .int)) = PyData.canLayAll0 (ks.map .int) from rfl, (fps_ints ks).1, show PyData.depth (.tuple (ks.map .int)) = PyData.depthAll (ks.map .int) + 1 from rfl, (fps_ints ks).2] <;> rfl
variable {B : Bs} {k : Nat} {S : Sto} {Ex : XS} {Q : QO} {o p : O} {e f : PyData} {n w b : Nat} {es : List PyData}
/-! equality -/
theorem eqvAll_map {α : Type} [DecidableEq α] {f : α → PyData} (hf : ∀ a b, PyData.eqv (f a) (f b) = decide (a = b)) : ∀ xs ys : List α, PyData.eqvAll (xs.map f) (ys.map f) = decide (xs = ys)
  | [], [] => rfl
  | [], y :: ys => rfl
  | x :: xs, [] => rfl
  | x :: xs, y :: ys => by
    show (PyData.eqv (f x) (f y) && PyData.eqvAll (xs.map f) (ys.map f)) = _
    rw [hf, eqvAll_map hf xs ys]
    by_cases c : x = y
    · subst c
      by_cases d : xs = ys
      · subst d
        simp
      · simp [d]
    · simp [c]
theorem any_eqv_map {α : Type} [DecidableEq α] {f : α → PyData} (hf : ∀ a b, PyData.eqv (f a) (f b) = decide (a = b)) (x : α) : ∀ ys : List α, ((ys.map f).any fun z => PyData.eqv z (f x)) = decide (x ∈ ys)
  | [] => by simp
  | y :: ys => by
    rw [List.map_cons, List.any_cons, hf, any_eqv_map hf x ys]
    by_cases c : y = x
    · subst c
      simp
    · have c2 : ¬ x = y := fun z => c z.symm
      by_cases d : x ∈ ys <;> simp [c, c2, d]
theorem eqv_int (a b : Int) : PyData.eqv (.int a) (.int b) = decide (a = b) := by
  show (a == b) = _
  by_cases c : a = b
  · subst c; simp
  · simp [c]
theorem eqv_ilist (xs ys : List Int) : PyData.eqv (.list (xs.map .int)) (.list (ys.map .int)) = decide (xs = ys) := eqvAll_map eqv_int xs ys
theorem eqv_ituple (xs ys : List Int) : PyData.eqv (.tuple (xs.map .int)) (.tuple (ys.map .int)) = decide (xs = ys) := eqvAll_map eqv_int xs ys
theorem pds_map {α : Type} {f : α → D} {g : α → PyData} (h : ∀ a, pd (f a) = some (g a)) : ∀ xs : List α, pds (xs.map f) = some (xs.map g)
  | [] => rfl
  | x :: xs => by
    have ih := pds_map h xs
    show (match pd (f x), pds (xs.map f) with | some d, some ds => some (d :: ds) | _, _ => none) = _
    rw [h, ih] <;> rfl
theorem pd_tmap {α : Type} {f : α → D} {g : α → PyData} (h : ∀ a, pd (f a) = some (g a)) (xs : List α) : pd (.tup (xs.map f)) = some (.tuple (xs.map g)) := by
  show (pds (xs.map f)).map PyData.tuple = _
  rw [pds_map h] <;> rfl
/-- an integer in a list of integers -/
theorem s_inI {ks : List Int} {i : Int} {p : O} (h : LsO S p (ks.map .int)) (q : Q (.v (.bl (decide (i ∈ ks)))) S) : sem2 B k (compareOp .In) (.v (.int i)) p S Ex Q :=
  s_inD (pdV rfl) (.inr ⟨_, _, h, pds_map (f := D.int) (g := PyData.int) (fun _ => rfl) ks, rfl⟩) (shp_int i) (shp_intsL ks) (by rw [any_eqv_map eqv_int]; exact q)
end Dt

set_option Elab.async false
set_option linter.all false
set_option maxRecDepth 100000
set_option maxHeartbeats 8000000
/-! DatZL: comprehensions over the values and the pairs of a dict of the store -/
namespace Dt
open PySem PySem.Spec PyProof.Rows L2 My He SX
section
variable {G : Cf} {X : Cx} {en : En} {W W1 : Wd} {σ : L2.St} {H H1 : Hp} {ρ : List Sl} {S S1 : Sto} {pins : List (Addr × Obj)} {s s1 : Shared} {e a b c o tg iter : Expr} {pos p apos cpos : Pos} {x : Str}
theorem RepK.getD {K : PySem.W.Frag} {W : Wd} : ∀ {kvs : List (Key × D)} {vs : List (Key × V)} {j : Nat} {k : Key} {v : V}, RepK K W kvs vs → vs[j]? = some (k, v) → ∃ d, kvs[j]? = some (k, d) ∧ Rep K W d v
  | _, _, j, _, _, .nil, e => by simp at e
  | _, _, 0, _, _, .cons h t, e => by
    simp only [List.getElem?_cons_zero, Option.some.injEq, Prod.mk.injEq] at e
    obtain ⟨rfl, rfl⟩ := e
    exact ⟨_, rfl, h⟩
  | _, _, j + 1, _, _, .cons h t, e => by
    obtain ⟨d, h1, h2⟩ := RepK.getD (j := j) t (by simpa using e)
    exact ⟨d, by simpa using h1, h2⟩
theorem WkC.items {K : PySem.W.Frag} {i : Nat} {od : Obj} {kvs : List (Key × D)} {vs : List (Key × V)} (hi : i < W.n) : WkC K W H (Iti (W.m i) od vs) (kvs.map fun p => D.tup [kD p.1, p.2]) (fun S' => S'[i]? = some (.lck (.frz od (.dK vs)) kvs)) where
  go := fun j W' H' S' g ho c hj => by
    obtain ⟨e, r⟩ := lck_at ho c
    rw [g.le.m i hi] at e
    rw [List.length_map, r.len2] at hj
    exact ⟨e, hj⟩
  yl := fun j W' H' S' x H2 g ho c hj ⟨T, k, v, ek, ex, hT, eH⟩ => by
    subst ex eH
    obtain ⟨_, r⟩ := lck_at ho c
    obtain ⟨d, e2, rd⟩ := r.getD ek
    obtain ⟨W2, S2, h2, g2, rt, eS⟩ : ∃ W2 S2, Ho K W2 (upd H' T (.tup [kV k, v])) S2 ∧ Go W' H' W2 (upd H' T (.tup [kV k, v])) ∧ Rep K W2 (.tup [kD k, d]) (.ref T) ∧ S2 = S' := by
      obtain ⟨W2, o, S2, h2, g2, ro, q⟩ := nxT (en := ⟨W', H', T, none⟩) (Q := fun o S2 => o = .v (.tup [kD k, d]) ∧ S2 = S') ho (Reps.cons (rep_kD k) (.cons rd .nil)) ⟨rfl, rfl⟩ T hT
      obtain ⟨rfl, rfl⟩ := q
      exact ⟨W2, _, h2, g2, ro, rfl⟩
    subst eS
    exact ⟨_, W2, by rw [List.getElem?_map, e2] <;> rfl, h2, g2, rt⟩
  st := fun j W' H' S' g ho c hj => by
    obtain ⟨e, r⟩ := lck_at ho c
    rw [g.le.m i hi] at e
    rw [List.length_map, r.len2] at hj
    exact ⟨e, hj⟩
end
end Dt

set_option Elab.async false
set_option linter.all false
set_option maxRecDepth 100000
set_option maxHeartbeats 8000000
/-! DatZM: walks over lists of the store (that stay as they are while the walk runs) -/
namespace Dt
open PySem PySem.Spec PyProof.Rows L2 My He SX
/-- J walks xs from here on, while C0 holds of the store -/
structure WkS (K : PySem.W.Frag) (W : Wd) (J : It) (xs : List D) (C0 : Sto → Prop) : Prop where
  go : ∀ (i : Nat) W' H' S', W.Le W' → Ho K W' H' S' → C0 S' → i < xs.length → J.go i H'
  yl : ∀ (i : Nat) W' H' S' x H2, W.Le W' → Ho K W' H' S' → C0 S' → i < xs.length → J.yld i H' x H2 → ∃ d W2, xs[i]? = some d ∧ Ho K W2 H2 S' ∧ Go W' H' W2 H2 ∧ Rep K W2 d x
  st : ∀ (i : Nat) W' H' S', W.Le W' → Ho K W' H' S' → C0 S' → xs.length ≤ i → J.stop i H'
theorem WkS.toC {K : PySem.W.Frag} {W : Wd} {H : Hp} {J : It} {xs : List D} {C0 : Sto → Prop} (h : WkS K W J xs C0) : WkC K W H J xs C0 :=
  ⟨fun i W' H' S' g => h.go i W' H' S' g.le, fun i W' H' S' x H2 g => h.yl i W' H' S' x H2 g.le, fun i W' H' S' g => h.st i W' H' S' g.le⟩
section
variable {G : Cf} {X : Cx} {en : En} {W W1 : Wd} {σ : L2.St} {H H1 : Hp} {ρ : List Sl} {S S1 : Sto} {pins : List (Addr × Obj)} {s s1 : Shared} {e a b c o tg iter : Expr} {pos p apos cpos : Pos} {x : Str}
theorem lst_at {K : PySem.W.Frag} {i : Nat} {xs : List D} (ho : Ho K W H S) (h : S[i]? = some (.lst xs)) : ∃ vs, H (W.m i) = some (.lst vs) ∧ Reps K W xs vs := ho.cel i _ h
theorem WkS.lst {K : PySem.W.Frag} {n : Nat} {xs : List D} (hn : n < W.n) : WkS K W (Itl K (W.m n)) xs (fun S' => S'[n]? = some (.lst xs)) where
  go := fun i W' H' S' l ho c hi => by
    obtain ⟨vs, e, r⟩ := lst_at ho c
    rw [l.m n hn] at e
    have hv : i < vs.length := by rw [r.len]; exact hi
    exact ⟨vs, vs[i], .inl (.inl e), List.getElem?_eq_getElem hv⟩
  yl := fun i W' H' S' x H2 l ho c hi y => by
    obtain ⟨e, y⟩ := y
    subst e
    obtain ⟨vs, e, r⟩ := lst_at ho c
    rw [l.m n hn] at e
    obtain ⟨d, e, rd⟩ := r.get (y vs (.inl (.inl e)))
    exact ⟨d, W', e, ho, .refl, rd⟩
  st := fun i W' H' S' l ho c hi => by
    obtain ⟨vs, e, r⟩ := lst_at ho c
    rw [l.m n hn] at e
    exact ⟨vs, .inl (.inl e), by rw [r.len]; exact hi⟩
abbrev RSL := List Sl → Sto → XD → (Nat → List D → Sto → Prop) → Prop
/-- an iteration over a list of the store -/
structure DIS (G : Cf) (tg iter : Expr) (t : RSL) : Prop where
  run : ∀ {X en W σ H ρ S E pins s} {Q : Nat → List D → Sto → Prop}, At G X en W σ H ρ S E pins s → t ρ S E Q →
    wpAny (model X.prog X.w) X.A (eval iter X.env) (fun v s1 => wpAny (model X.prog X.w) X.A (pyIter v) (PIE X pins σ tg fun J H' => ∃ W' S1 p xs, Ho G.B.K W' H' S1 ∧ Go W H W' H' ∧
      WkS G.B.K W' J xs (fun S' => S'[p]? = some (.lst xs)) ∧ Q p xs S1) X.xe s1) X.xe s
abbrev iSto (ti : RE) : RSL := fun ρ S E Q => ti ρ S E fun o S1 => ∃ n xs, o = .v (.ptr n) ∧ S1[n]? = some (.lst xs) ∧ Q n xs S1
theorem dis_val {ti : RE} (he : DE G iter ti) : DIS G tg iter (iSto ti) := by
  refine ⟨fun {X en W σ H ρ S E pins s Q} z q => he.at z q fun v s1 x' H1 W1 o S1 z1 g1 r1 ro ⟨n, xs, eo, en', q1⟩ => ?_⟩
  subst eo
  have fr : ∀ b, s1.heap.objs.size ≤ b → FpOk X pins H1 b := fun b hb => z1.I.fpOk hb (z1.I.hok.fresh hb)
  have hn := cell_lt z1.rs.ho en'
  obtain ⟨vs, hq, rr⟩ := lst_at z1.rs.ho en'
  have ex : x' = .ref (W1.m n) := by
    cases ro
    rfl
  subst ex
  obtain rfl : v = Value.ref (W1.m n) := r1
  obtain ⟨its, rv, p, hz⟩ := z1.I.list (show SqL X.K H1 (W1.m n) vs from .inl (.inl hq))
  refine wpAny_pyIter_list p.isList ?_
  refine ⟨s1.heap.objs.size, [s1.heap.objs.size], _, _, H1, rfl, z1.I.kept (t' := s1.toks) fun b o e => Heap.get?_push_of_some _ e, turn_list (W1.m n) _, ⟨_, Heap.get?_push_size _ rfl, rfl, rfl⟩, fun b hb => fr b (Nat.le_of_eq (List.mem_singleton.mp hb).symm), W1, S1, n, xs, z1.rs.ho, g1, ?_, q1⟩
  rw [z1.hf.b.K]
  exact .lst hn
/-- [.. for .. in a list of the store ..] -/
abbrev fLcS (ti : RSL) (g : RG) (tt : RT) (te : RE) (ws : List Nat) : RF := fun ρ S E Q => ti ρ S E fun n xs S1 => LcC (fun S' => S'[n]? = some (.lst xs)) g tt te (wipeS ρ ws) xs [] S1 Q
theorem df_lcS {elt : Expr} {ifs : List Expr} {scope : Scope} {own : List (Str × Nat)} {ws : List Nat} {ti : RSL} {g : RG} {tt : RT} {te : RE} (hc : G.B.cal = false) (hw : ∀ j, j ∈ ws → j ∈ own.map (·.2)) (hi : DIS G tg iter ti) (ok : BlkOk G.N G.sc scope own) (hg : DG (G.blk scope) tg ws g) (ht : DTs (G.blk scope) ifs tt) (he : DE (G.blk scope) elt te)
    (hs : ∀ (env : Env) y, foldedSetIterable iter env y = pure y := by intro _ _; rfl) : DF G (.ListComp elt [⟨tg, iter, ifs, 0⟩] scope pos) (fLcS ti g tt te (own.map (·.2))) := by
  refine ⟨fun {X en W σ H ρ S E pins s Q} z q => ?_⟩
  have PP := pe_lc (X := X) (elt := elt) (tg := tg) (iter := iter) (ifs := ifs) (scope := scope) (own := own) (pos := pos) (wi := tIr X tg iter) (g := tGb X scope tg) (tt := tTb X scope ifs) (te := tEb X scope elt) (z.hf.b.cm hc).1 z.hf.nd (ican X tg iter) (by rw [z.hf.N, z.hf.sc]; exact ok)
    (fun s H C cl fp => ⟨fun pins s' σ H v u Q I r h => h _ _ _ _ _ pins s' u I r⟩) (fun s H C cl fp => ⟨fun pins s' σ H Q I h => h _ _ _ _ _ pins s' I⟩) (fun s H C cl fp => ⟨fun pins s' σ H Q I h => h _ _ _ _ _ pins s' I⟩) (hs _)
  refine thn (PP.run pins s σ H (fun v H2 => ∃ a W2 vs ys S2, v = .ref a ∧ H2 a = some (.lst vs) ∧ Reps G.B.K W2 ys vs ∧ Ho G.B.K W2 H2 S2 ∧ Go W H W2 H2 ∧ H a = none ∧ W2.F a = none ∧ (∀ i, i < W2.n → W2.m i ≠ a) ∧ Q ys S2) z.I ?_) fun v s1 ⟨x, H1, I1, r1, a, W1, vs, xs, S1, e, ha, rr, h1, g1, na, nf, nm, q1⟩ => ?_
  · intro pins' s' I
    refine thn (hi.run (z.re I) q) fun v s1 h1 => thn h1 fun itv s2 h2 => ?_
    refine pi_imp (fun J H1 ⟨W1, S1, n, xs, h1, g1, wk, q1⟩ L hL => ?_) h2
    have hL0 : H L = none := by
      cases y : H L with
      | none => rfl
      | some u =>
        by_cases c : ∃ i, i < W.n ∧ W.m i = L
        · obtain ⟨i, hi, c⟩ := c
          rw [← g1.le.m i hi] at c
          obtain ⟨u2, e2⟩ := h1.there i (Nat.lt_of_lt_of_le hi g1.le.n)
          rw [c, hL] at e2
          cases e2
        · have := g1.kp L u y fun i hi k => c ⟨i, hi, k⟩
          rw [hL] at this
          cases this
    obtain ⟨Wv, m0, st⟩ := lc_turnsR hc hw hg ht he z.hf (z.rs.after h1 g1) wk.toC q1 L hL
    exact ⟨Wv, m0, fun i m H w => (st i m H w).imp (fun ⟨p1, W2, vs, ys, S2, eL, ra, h2, g2, f2, m2, c2, q2⟩ => ⟨p1, L, W2, vs, ys, S2, rfl, eL, ra, h2, g1.trans g2 h2, hL0, f2, m2, q2⟩) id⟩
  · subst e
    obtain rfl : v = Value.ref a := r1
    exact ⟨a, _, W1, vs, xs, _, I1, rfl, ha, rr, h1, g1, na, nf, nm, q1⟩
/-- the turns that are left, C0 at each -/
def LoopC (C0 : Sto → Prop) (g : RG) (tb : RS) (D : DEnds) : List Dt.D → List Sl → Sto → Prop
  | [], ρ, S => C0 S ∧ D.nx ρ S
  | x :: xs, ρ, S => C0 S ∧ g x ρ S D.ex fun ρ' S' => tb ⟨LoopC C0 g tb D xs, D.rt, D.nx, LoopC C0 g tb D xs, D.ex⟩ ρ' S'
theorem LoopC.now {C0 : Sto → Prop} {g : RG} {tb : RS} {D : DEnds} : ∀ {xs : List Dt.D} {ρ : List Sl} {S : Sto}, LoopC C0 g tb D xs ρ S → C0 S
  | [], _, _, h => h.1
  | _ :: _, _, _, h => h.1
def dForS (ti : RSL) (g : RG) (tb : RS) : RS := fun D ρ S => ti ρ S D.ex fun n xs S1 => LoopC (fun S' => S'[n]? = some (.lst xs)) g tb D xs ρ S1
theorem ds_forS {body : List Stmt} {ti : RSL} {g : RG} {tb : RS} {vs : List Nat} (hp : G.lp = true) (hc : G.B.cal = false) (hi : DIS G tg iter ti) (hg : DG G tg vs g) (hb : DSs G body tb)
    (hs : ∀ (env : Env) x, foldedSetIterable iter env x = pure x := by intro _ _; rfl) : DS G (.For tg iter body [] pos) (dForS ti g tb) := by
  refine ⟨fun {X en W σ H ρ S pins s D} z q => ?_⟩
  refine (ps_for (X := X) (pos := pos) (z.hf.po hp) (z.hf.b.cm hc).1 (ican X tg iter) (gcan X tg) (bcan X body) (hs _)).run pins s σ H _ z.I fun pins' s' I => ?_
  refine thn (hi.run (z.re I) q) fun v s1 h1 => thn h1 fun itv s2 h2 => ?_
  refine pi_imp (fun J H1 ⟨W1, S1, n, xs, h1, g1, wk, q1⟩ => ?_) h2
  have r1 := z.rs.after h1 g1
  generalize (fun S' : Sto => S'[n]? = some (Cell.lst xs)) = C0 at wk q1
  refine ⟨fun i m σ' H' => m = xs.length - i ∧ i ≤ xs.length ∧ ∃ W' ρ' S', Rs G.B.K en W' σ' H' ρ' S' ∧ W1.Le W' ∧ LoopC C0 g tb D (xs.drop i) ρ' S', ⟨xs.length, by simp, Nat.zero_le _, W1, ρ, S1, r1, .refl, by simpa using q1⟩, ?_⟩
  rintro i m σ2 H2 ⟨rfl, hi, W2, ρ2, S2, r2, l2, q2⟩
  by_cases hlt : i < xs.length
  · refine .inr ⟨wk.go i W2 H2 S2 l2 r2.ho (LoopC.now q2) hlt, fun σ3 H3 => ∃ W3 ρ3 S3, Rs G.B.K en W3 σ3 H3 ρ3 S3 ∧ W1.Le W3 ∧ LoopC C0 g tb D (xs.drop (i + 1)) ρ3 S3, fun σ3 H3 ⟨W3, ρ3, S3, r3, l3, q3⟩ => ⟨_, by omega, rfl, hlt, W3, ρ3, S3, r3, l3, q3⟩, fun x H3 y => ?_⟩
    obtain ⟨d, W3, ed, h3, g3, rd⟩ := wk.yl i W2 H2 S2 x H3 l2 r2.ho (LoopC.now q2) hlt y
    rw [List.drop_eq_getElem_cons hlt] at q2
    replace q2 := q2.2
    have e2 : xs[i] = d := by
      rw [List.getElem?_eq_getElem hlt] at ed
      exact Option.some.inj ed
    rw [e2] at q2
    intro pins3 s3 u I3 ru
    have z3 : At G X en W3 σ2 H3 ρ2 S2 D.ex pins3 s3 := ⟨z.hf, tk_up (g1.le.trans (l2.trans g3.le)) z.tk, r2.after h3 g3, I3⟩
    refine thn (hg.run z3 rd ru q2) fun _ s4 ⟨σ4, H4, W4, ρ4, S4, z4, ⟨l4, q4⟩, _⟩ => ⟨σ4, H4, z4.I, fun pins5 s5 I5 => ?_⟩
    have l5 : W1.Le W4 := (l2.trans g3.le).trans l4
    refine thn (hb.run (D := ⟨LoopC C0 g tb D (xs.drop (i + 1)), D.rt, D.nx, LoopC C0 g tb D (xs.drop (i + 1)), D.ex⟩) (z4.re I5) q4) fun fl s6 q6 => ?_
    cases fl with
    | next => exact let ⟨σ6, H6, I6, W6, ρ6, S6, r6, l6, k6⟩ := q6; ⟨σ6, H6, I6, W6, ρ6, S6, r6, l5.trans l6, k6⟩
    | cont => exact let ⟨σ6, H6, I6, W6, ρ6, S6, r6, l6, k6⟩ := q6; ⟨σ6, H6, I6, W6, ρ6, S6, r6, l5.trans l6, k6⟩
    | brk => exact let ⟨σ6, H6, I6, W6, ρ6, S6, r6, l6, k6⟩ := q6; ⟨σ6, H6, I6, W6, ρ6, S6, r6, g1.le.trans (l5.trans l6), k6⟩
    | ret v => exact let ⟨v, σ6, H6, I6, r0, W6, σ', ρ6, d, S6, r6, l6, rp, k6⟩ := q6; ⟨v, σ6, H6, I6, r0, W6, σ', ρ6, d, S6, r6, g1.le.trans (l5.trans l6), rp, k6⟩
  · have e : i = xs.length := by omega
    subst e
    rw [List.drop_length] at q2
    exact .inl ⟨wk.st _ W2 H2 S2 l2 r2.ho q2.1 (Nat.le_refl _), W2, ρ2, S2, r2, g1.le.trans l2, q2.2⟩
/-- a loop over a list of the store by its invariant -/
theorem loop_invS {C0 : Sto → Prop} {g : RG} {tb : RS} {D : DEnds} {xs : List Dt.D} (I : Nat → List Sl → Sto → Prop) (h0 : I 0 ρ S) (hC : ∀ i ρ S, I i ρ S → C0 S)
    (hs : ∀ i x ρ S (Nx : List Sl → Sto → Prop), xs[i]? = some x → I i ρ S → (∀ ρ' S', I (i + 1) ρ' S' → Nx ρ' S') → g x ρ S D.ex fun ρ' S' => tb ⟨Nx, D.rt, D.nx, Nx, D.ex⟩ ρ' S')
    (hd : ∀ ρ S, I xs.length ρ S → D.nx ρ S) : LoopC C0 g tb D xs ρ S := by
  have key : ∀ (k i : Nat) (ρ : List Sl) (S : Sto), i + k = xs.length → I i ρ S → LoopC C0 g tb D (xs.drop i) ρ S := by
    intro k
    induction k with
    | zero =>
      intro i ρ S e h
      obtain rfl : i = xs.length := by omega
      rw [List.drop_length]
      exact ⟨hC _ _ _ h, hd _ _ h⟩
    | succ k ih =>
      intro i ρ S e h
      have hlt : i < xs.length := by omega
      rw [List.drop_eq_getElem_cons hlt]
      exact ⟨hC _ _ _ h, hs i _ ρ S _ (List.getElem?_eq_getElem hlt) h fun ρ' S' h' => ih (i + 1) ρ' S' (by omega) h'⟩
  have := key xs.length 0 ρ S (Nat.zero_add _) h0
  rwa [List.drop_zero] at this
end
end Dt

set_option Elab.async false
set_option linter.all false
set_option maxRecDepth 100000
set_option maxHeartbeats 8000000
/-! DatZN: what repr shows of plain data has signs below 128 only -/
namespace Dt
open PySem PySem.Spec PyProof.Rows L2 My He SX
def Asc (x : Str) : Prop := ∀ c ∈ x.cps.toList, c < 128
theorem asc_app {a b : Str} (h : Asc a) (k : Asc b) : Asc (a ++ b) := fun c hc => (mem_cps_append.mp hc).elim (h c) (k c)
theorem asc_of {s : String} (h : ((Str.ofString s).cps.toList.all fun c => decide (c < 128)) = true) : Asc (Str.ofString s) := fun c hc => of_decide_eq_true (List.all_eq_true.mp h c hc)
theorem asc_from : ∀ (ts : List Str) (k : Nat) (acc : Str), Asc acc → (∀ t ∈ ts, Asc t) → Asc (textFrom k acc ts)
  | [], _, _, h, _ => h
  | t :: ts, k, acc, h, ht => asc_from ts (k + 1) _ (asc_app (asc_app h (by
      by_cases z : k > 0
      · rw [if_pos z]
        exact asc_of (by decide)
      · rw [if_neg z]
        exact asc_of (by decide))) (ht t (.head _))) fun u hu => ht u (.tail _ hu)
theorem asc_list {ts : List Str} (h : ∀ t ∈ ts, Asc t) : Asc (listText ts) := asc_app (asc_from ts 0 _ (asc_of (by decide)) h) (asc_of (by decide))
theorem asc_join : ∀ {ts : List Str}, (∀ t ∈ ts, Asc t) → Asc (Str.join ", " ts)
  | [], _ => asc_of (s := "") (by decide)
  | [x], h => h x (.head _)
  | x :: y :: r, h => asc_app (asc_app (h x (.head _)) (asc_of (by decide))) (asc_join fun t ht => h t (.tail _ ht))
theorem asc_tuple {ts : List Str} (h : ∀ t ∈ ts, Asc t) : Asc (tupleText ts) := by
  unfold tupleText
  refine asc_app (asc_app (asc_of (by decide)) (asc_join h)) ?_
  split
  · exact asc_of (by decide)
  · exact asc_of (by decide)
theorem rasc : ∀ c < 128, (Builtin.Str.reprChar 39 c).all (fun c => decide (c < 128)) = true ∧ (Builtin.Str.reprChar 34 c).all (fun c => decide (c < 128)) = true := by decide +kernel
theorem rasc_fold (q : Nat) (hq : ∀ c < 128, (Builtin.Str.reprChar q c).all (fun c => decide (c < 128)) = true) : ∀ (l : List Nat) (acc : Array Nat), (∀ c ∈ l, c < 128) → acc.toList.all (fun c => decide (c < 128)) = true → ((l.foldl (fun out c => out ++ (Builtin.Str.reprChar q c).toArray) acc).toList.all fun c => decide (c < 128)) = true
  | [], acc, _, h => h
  | c :: r, acc, h, k => by
    refine rasc_fold q hq r _ (fun d hd => h d (List.mem_cons_of_mem _ hd)) ?_
    rw [Array.toList_append, List.all_append, k, Bool.true_and]
    exact hq c (h c (List.mem_cons_self ..))
theorem asc_repr {x : Str} (h : Asc x) : Asc (reprText x) := by
  have hq : reprQuote x = 34 ∨ reprQuote x = 39 := by
    unfold reprQuote
    split
    · exact .inl rfl
    · exact .inr rfl
  have key : ((reprText x).cps.toList.all fun c => decide (c < 128)) = true := by
    unfold reprText
    show (Array.push _ _).toList.all _ = true
    rw [Array.toList_push, List.all_append, ← Array.foldl_toList]
    rcases hq with e | e <;> rw [e]
    · rw [rasc_fold 34 (fun c hc => (rasc c hc).2) _ _ h rfl] <;> rfl
    · rw [rasc_fold 39 (fun c hc => (rasc c hc).1) _ _ h rfl] <;> rfl
  exact fun c hc => of_decide_eq_true (List.all_eq_true.mp key c hc)
theorem asc_int (i : Int) : Asc (PyData.shown (.int i)) := fun c hc => by
  have hc : c ∈ (Str.ofString (toString i)).cps.toList := hc
  rw [txt_int] at hc
  have hc : c ∈ intL i := hc
  refine Decidable.byContradiction fun n => ?_
  exact intL_free (i := i) (s := c) (.inr (by omega)) (by omega) hc
mutual
/-- texts of signs below 128 only, no dict -/
def ascP : PyData → Bool
  | .none | .bool _ | .int _ => true
  | .str x => x.cps.toList.all fun c => decide (c < 128)
  | .list xs | .tuple xs => ascPs xs
  | .dict _ => false
def ascPs : List PyData → Bool
  | [] => true
  | x :: xs => ascP x && ascPs xs
end
mutual
theorem asc_shown : ∀ {p : PyData}, ascP p = true → Asc p.shown
  | .none, _ => asc_of (by decide)
  | .bool b, _ => by
    cases b
    · exact asc_of (s := "False") (by decide)
    · exact asc_of (s := "True") (by decide)
  | .int i, _ => asc_int i
  | .str x, h => by
    have h : (x.cps.toList.all fun c => decide (c < 128)) = true := h
    exact asc_repr fun c hc => of_decide_eq_true (List.all_eq_true.mp h c hc)
  | .list xs, h => asc_list (asc_shownAll (show ascPs xs = true from h))
  | .tuple xs, h => asc_tuple (asc_shownAll (show ascPs xs = true from h))
  | .dict _, h => by cases h
theorem asc_shownAll : ∀ {xs : List PyData}, ascPs xs = true → ∀ t ∈ PyData.shownAll xs, Asc t
  | [], _ => fun t ht => by cases ht
  | x :: xs, h => fun t ht => by
    have h : (ascP x && ascPs xs) = true := h
    rw [Bool.and_eq_true] at h
    have ht : t ∈ x.shown :: PyData.shownAll xs := ht
    rcases List.mem_cons.mp ht with e | e
    · rw [e]
      exact asc_shown h.1
    · exact asc_shownAll h.2 t e
end
theorem Asc.lf {x : Str} (h : Asc x) (b : Nat) : PyData.leavesShort b (.str x) = true := by
  show (x.cps.toList.all fun c => decide (c < 16 ^ 8)) = true
  exact List.all_eq_true.mpr fun c hc => decide_eq_true (Nat.lt_trans (h c hc) (by decide))
theorem Asc.ok {x : Str} (h : Asc x) : PyData.strOk x = true := by
  show x.cps.all _ = true
  rw [← Array.all_toList]
  exact List.all_eq_true.mpr fun c hc => decide_eq_true (Nat.lt_trans (h c hc) (by decide))
/-- a text of signs below 128 -/
theorem Asc.fine {x : Str} (h : Asc x) {n w b : Nat} (hw : x.length ≤ w) : Fine n w b (.str x) := fp_str h.ok hw
theorem Fine.len {n w b : Nat} {p : PyData} (h : Fine n w b p) (hb : 8 ≤ b) : p.shown.length ≤ (b + 2) * w + b := by
  refine Nat.le_trans (PyData.shown_le b hb p h.lf) ?_
  have := Nat.mul_le_mul_left (b + 2) h.wt
  omega
/-- what is shown of it, as a text again -/
theorem Fine.shown {n w b u m c : Nat} {p : PyData} (h : Fine n w b p) (a : ascP p = true) (hb : 8 ≤ b) (hu : (b + 2) * w + b ≤ u) : Fine m u c (.str p.shown) := (asc_shown a).fine (Nat.le_trans (h.len hb) hu)
end Dt

set_option Elab.async false
set_option linter.all false
set_option maxRecDepth 100000
set_option maxHeartbeats 8000000
/-! DatZO: del d[k]; what a locked dict of the store tells; a star parameter with a keyword behind it -/
namespace Dt
open PySem PySem.Spec PyProof.Rows L2 My He SX
section
variable {G : Cf} {X : Cx} {en : En} {W W1 : Wd} {σ : L2.St} {H H1 : Hp} {ρ : List Sl} {S S1 : Sto} {E : XD} {pins : List (Addr × Obj)} {s s1 : Shared} {e a b c o : Expr} {es : List Expr} {t ta tb tc te to ti : RE} {tA tK : RA} {pos p apos pos' tpos : Pos} {x m : Str}
end
/-! locked dicts -/
section
variable {B : Bs} {k n : Nat} {S : Sto} {Ex : XS} {Q : QO} {i : Key}
end
/-! def f(a, .., *v, k=..), k given -/
section
variable {B : Bs} {x qual : Str} {params : Arguments} {body : List Stmt} {scope : Scope} {dvs : List V} {kws : List (Str × V)} {f : Addr} {fd : FuncData} {N ps ks : List Str} {m n : Nat}
end
end Dt

set_option Elab.async false
set_option linter.all false
set_option maxRecDepth 100000
set_option maxHeartbeats 8000000
/-! DatZP: x is True, x is not True of values of any kind -/
namespace Dt
open PySem PySem.Spec PyProof.Rows L2 My He SX
section
variable {B : Bs} {k : Nat} {S : Sto} {Ex : XS} {Q : QO} {d : D} {b : Bool}
end
end Dt

set_option Elab.async false
set_option linter.all false
set_option maxRecDepth 100000
set_option maxHeartbeats 8000000
/-! DatZQ: for, inside of a generator -/
namespace PySem
open Sem (wp)
section
variable {prog : Program} {w : World} {A : Around} {R : GenEnd} {Y : Protocol} {n : Nat} {s₀ : Shared} {c : Code} {fs : List Frame} {s : Shared} {env : Env}
  {K : Flow → Sem Fin} {H : Value → Sem Fin} {gd : Bool → Bool} {lv : List Value → List Value}
end
end PySem
namespace L2
open PySem PySem.Spec PyProof.Rows GenW
section
variable {X : Cx}
end
end L2

set_option Elab.async false
set_option linter.all false
set_option maxRecDepth 100000
set_option maxHeartbeats 8000000
/-! DatZR: generators: bodies by readings; list(o.m()) -/
namespace Dt
open PySem PySem.Spec PyProof.Rows L2 My GenW
structure YEnds where
  nx : List D → List Sl → Sto → Prop
  rt : List D → D → List Sl → Sto → Prop
  bk : List D → List Sl → Sto → Prop
  ct : List D → List Sl → Sto → Prop
  ex : XD
abbrev RY := YEnds → List D → List Sl → Sto → Prop
def yends (K : PySem.W.Frag) (en : En) (W : Wd) (D : YEnds) : GEnds where
  nx := fun vs σ' H' => ∃ W' ρ' S' ys, Rs K en W' σ' H' ρ' S' ∧ W.Le W' ∧ Reps K W' ys vs ∧ D.nx ys ρ' S'
  rt := fun vs v H' => ∃ W' σ' ρ' d S' ys, Rs K en W' σ' H' ρ' S' ∧ W.Le W' ∧ Rep K W' d v ∧ Reps K W' ys vs ∧ D.rt ys d ρ' S'
  bk := fun vs σ' H' => ∃ W' ρ' S' ys, Rs K en W' σ' H' ρ' S' ∧ W.Le W' ∧ Reps K W' ys vs ∧ D.bk ys ρ' S'
  ct := fun vs σ' H' => ∃ W' ρ' S' ys, Rs K en W' σ' H' ρ' S' ∧ W.Le W' ∧ Reps K W' ys vs ∧ D.ct ys ρ' S'
structure YImp (D D' : GEnds) : Prop where
  nx : ∀ ys σ H, D.nx ys σ H → D'.nx ys σ H
  rt : ∀ ys v H, D.rt ys v H → D'.rt ys v H
  bk : ∀ ys σ H, D.bk ys σ H → D'.bk ys σ H
  ct : ∀ ys σ H, D.ct ys σ H → D'.ct ys σ H
theorem YImp.up {K : PySem.W.Frag} {en : En} {W W2 : Wd} {D : YEnds} {D' : GEnds} (l : W.Le W2) (h : YImp (yends K en W D) D') : YImp (yends K en W2 D) D' where
  nx := fun ys σ H ⟨W', ρ', S', y, r, l2, q⟩ => h.nx _ _ _ ⟨W', ρ', S', y, r, l.trans l2, q⟩
  rt := fun ys v H ⟨W', σ', ρ', d, S', y, r, l2, q⟩ => h.rt _ _ _ ⟨W', σ', ρ', d, S', y, r, l.trans l2, q⟩
  bk := fun ys σ H ⟨W', ρ', S', y, r, l2, q⟩ => h.bk _ _ _ ⟨W', ρ', S', y, r, l.trans l2, q⟩
  ct := fun ys σ H ⟨W', ρ', S', y, r, l2, q⟩ => h.ct _ _ _ ⟨W', ρ', S', y, r, l.trans l2, q⟩
/-- a reading below -/
def tDY (K : PySem.W.Frag) (X : Cx) (en : En) (t : RY) : TGn := fun D' vs σ H => ∃ W ρ S ys D, Rs K en W σ H ρ S ∧ Reps K W ys vs ∧ Takes X (XT K en W D.ex) ∧ t D ys ρ S ∧ YImp (yends K en W D) D'
structure DY (G : Cf) (st : Stmt) (t : RY) : Prop where
  run : ∀ {X en}, Fits G X en → GS X st (tDY G.B.K X en t)
structure DYs (G : Cf) (st : List Stmt) (t : RY) : Prop where
  run : ∀ {X en}, Fits G X en → GSs X st (tDY G.B.K X en t)
section
variable {G : Cf} {st : Stmt} {rest : List Stmt} {t u : RY} {ts : RS} {e tg iter : Expr} {te : RE} {yp pos : Pos}
end
section
variable {B : Bs} {x qual : Str} {params : Arguments} {body : List Stmt} {scope : Scope} {dvs : List V} {kws : List (Str × V)} {f : Addr} {fd : FuncData} {N ps : List Str} {k : Nat} {t : RY}
end
section
variable {G : Cf} {o : Expr} {to : RE} {C m a : Str} {k : Nat} {fd : FuncData} {N : List Str} {t : RY} {p pos pos' apos : Pos}
end
end Dt

set_option Elab.async false
set_option linter.all false
set_option maxRecDepth 100000
set_option maxHeartbeats 8000000
/-! DatZS: name = {k: v for .. in a dict of the store} -/
namespace Dt
open PySem PySem.Spec PyProof.Rows L2 My He SX
/-- the turns that are left, C0 at each -/
def DcC (C0 : Sto → Prop) (g : RG) (tt : RT) (tk tv : RE) (ρ : List Sl) : List D → List (Key × D) → Sto → (List (Key × D) → Sto → Prop) → Prop
  | [], acc, S, Q => C0 S ∧ Q acc S
  | x :: xs, acc, S, Q => C0 S ∧ (g x ρ S noE fun ρ' S' => tt ρ' S' noE fun c S2 => if c = true then tk ρ' S2 noE fun o S3 => ∃ k, o = .v (kD k) ∧ tv ρ' S3 noE fun p S4 => ∃ d, p = .v d ∧ acc.length < sizeLine ∧ DcC C0 g tt tk tv ρ xs (putKD acc k d) S4 Q else DcC C0 g tt tk tv ρ xs acc S2 Q)
theorem DcC.now {C0 : Sto → Prop} {g : RG} {tt : RT} {tk tv : RE} {ρ : List Sl} {S : Sto} {Q : List (Key × D) → Sto → Prop} : ∀ {xs : List D} {acc : List (Key × D)}, DcC C0 g tt tk tv ρ xs acc S Q → C0 S
  | [], _, h => h.1
  | _ :: _, _, h => h.1
section
variable {G : Cf} {X : Cx} {en : En} {W W1 : Wd} {σ : L2.St} {H H1 : Hp} {ρ : List Sl} {S S1 : Sto} {pins : List (Addr × Obj)} {s s1 : Shared} {tg iter : Expr} {pos : Pos}
end
end Dt

set_option Elab.async false
set_option linter.all false
set_option maxRecDepth 100000
set_option maxHeartbeats 8000000
/-! DatZT: loops of generators by an invariant; dict comprehensions that read no state; a generator's reading as a thing -/
namespace Dt
open PySem PySem.Spec PyProof.Rows L2 My He SX
/-- a generator's body with its reading -/
structure GenR (G : Cf) (st : List Stmt) where
  t : RY
  h : DYs G st t
end Dt

set_option Elab.async false
set_option linter.all false
set_option maxRecDepth 100000
set_option maxHeartbeats 8000000
/-! DatZU: two branches that meet again -/
namespace Dt
open PySem PySem.Spec PyProof.Rows L2 My
section
variable {c : Prop} [Decidable c] {ρ : List Sl} {S : Sto} {α : Type}
/-- branches of an expression -/
theorem j_E {A B : RE} {E : XD} {Q : QO} (P : Dt.D → Sto → Prop) (key : ∀ d S', P d S' → Q (.v d) S') (t : ∀ Q : QO, (∀ d S', P d S' → Q (.v d) S') → c → A ρ S E Q) (e : ∀ Q : QO, (∀ d S', P d S' → Q (.v d) S') → ¬c → B ρ S E Q) : if decide c = true then A ρ S E Q else B ρ S E Q := by
  by_cases h : c
  · rw [decide_eq_true h, if_pos rfl]
    exact t _ key h
  · rw [decide_eq_false h, if_neg Bool.false_ne_true]
    exact e _ key h
end
end Dt

set_option Elab.async false
set_option linter.all false
set_option maxRecDepth 100000
set_option maxHeartbeats 8000000
/-! DatZV: calls by keywords, in any order, defaults for those that lack -/
namespace Dt
open PySem PySem.Spec PyProof.Rows L2 My
/-- the further parameters, each from the keywords' values (true) or the defaults (false) -/
def pJ {α : Type} : List (Bool × Nat) → List α → List α → List α
  | [], _, _ => []
  | (true, i) :: r, its, ws => (ws.drop i).take 1 ++ pJ r its ws
  | (false, i) :: r, its, ws => (its.drop i).take 1 ++ pJ r its ws
theorem pJ_vals {ds zs : List V} {its ws : List Value} (r1 : Vals ds its) (r2 : Vals zs ws) : ∀ js : List (Bool × Nat), Vals (pJ js ds zs) (pJ js its ws)
  | [] => .nil
  | (true, i) :: r => ((Vals.drop i r2).take 1).append (pJ_vals r1 r2 r)
  | (false, i) :: r => ((Vals.drop i r1).take 1).append (pJ_vals r1 r2 r)
theorem pJ_reps {K : PySem.W.Frag} {W : Wd} {ds zs : List D} {vs ws : List V} (r1 : Reps K W ds vs) (r2 : Reps K W zs ws) : ∀ js : List (Bool × Nat), Reps K W (pJ js ds zs) (pJ js vs ws)
  | [] => .nil
  | (true, i) :: r => ((r2.drop i).take 1).app (pJ_reps r1 r2 r)
  | (false, i) :: r => ((r1.drop i).take 1).app (pJ_reps r1 r2 r)
theorem pJ_len {α : Type} {its ws : List α} : ∀ {js : List (Bool × Nat)}, (∀ p ∈ js, p.2 < (if p.1 = true then ws.length else its.length)) → (pJ js its ws).length = js.length
  | [], _ => rfl
  | (true, i) :: r, h => by
    have h1 : i < ws.length := h _ (.head _)
    have h2 := pJ_len (its := its) (ws := ws) (js := r) fun p hp => h p (.tail _ hp)
    show ((ws.drop i).take 1 ++ pJ r its ws).length = r.length + 1
    rw [List.length_append, h2, List.length_take, List.length_drop]
    omega
  | (false, i) :: r, h => by
    have h1 : i < its.length := h _ (.head _)
    have h2 := pJ_len (its := its) (ws := ws) (js := r) fun p hp => h p (.tail _ hp)
    show ((its.drop i).take 1 ++ pJ r its ws).length = r.length + 1
    rw [List.length_append, h2, List.length_take, List.length_drop]
    omega
section
variable {B : Bs} {x qual : Str} {params : Arguments} {body : List Stmt} {scope : Scope} {dvs : List V} {kws : List (Str × V)} {f : Addr} {fd : FuncData} {N ps : List Str} {m : Nat}
/-- without defaults -/
theorem bm_key (F : FunD B.K x qual params body scope [] kws f fd) (n : Nat) (ks : List Str) (js : List (Bool × Nat)) (nm : m ≤ n) (hl : n + js.length = ps.length) (hj : ∀ p ∈ js, p.1 = true ∧ p.2 < ks.length)
    (h : ∀ (kV doc pm : Value) (an : Option Addr) (cdv ct : Value) (us ws : List Value), us.length = n → ws.length = ks.length → bindArgs (PySem.W.fnOf x qual params body scope .none kV doc pm an cdv ct) ⟨us, ks.zip ws⟩ = pure (ps.zip (us ++ pJ js [] ws))) :
    BindM B fd ps m ks (fun ds zs => ds.length + m = n ∧ zs.length = ks.length) (fun ds zs => ds ++ pJ js [] zs) := by
  refine bm_kbn (kb0 F n ks (fun us ws => us ++ pJ js [] ws) (fun r1 r2 => r1.append (pJ_vals .nil r2 js)) h) nm fun W pre ds zs vs ws hm hd hz r1 r2 => ?_
  refine ⟨vs ++ pJ js [] ws, List.append_assoc _ _ _, r1.app (pJ_reps .nil r2 js), ?_⟩
  have e := pJ_len (its := ([] : List V)) (ws := ws) (js := js) fun p hp => by rw [if_pos (hj p hp).1, r2.len, hz]; exact (hj p hp).2
  have := r1.len
  rw [List.length_append, List.length_append, e]
  omega
end
end Dt

set_option Elab.async false
set_option linter.all false
set_option maxRecDepth 100000
set_option maxHeartbeats 8000000
/-! DatZX: == of an object with itself; star parameters with keywords and with a keyword's default -/
namespace Dt
open PySem PySem.Spec PyProof.Rows L2 My
namespace IdO
open PySem.W PySem.Calls
section
variable {prog : Program} {w : World} {A : Around} {E : Value → Shared → Prop} {s : Shared} {K : Frag} {x C : Addr} {ox : Obj} {od : Option Obj}
end
end IdO
section
variable {B : Bs} {k : Nat} {S : Sto} {Ex : XS} {C : Str} {fs : List (Str × D)}
end
/-! binding -/
section
variable {B : Bs} {x qual : Str} {params : Arguments} {body : List Stmt} {scope : Scope} {dvs : List V} {kws : List (Str × V)} {f : Addr} {fd : FuncData} {N ps : List Str} {m : Nat}
end
end Dt

set_option Elab.async false
set_option linter.all false
set_option maxRecDepth 100000
set_option maxHeartbeats 8000000
/-! DatZZ: a list comprehension whose value becomes a cell of the store -/
namespace Dt
open PySem PySem.Spec PyProof.Rows L2 My He
section
variable {G : Cf} {e : Expr}
/-- .. as a cell of the store -/
abbrev dOfP (tf : RF) : RE := fun ρ S E Q => tf ρ S E fun xs S1 => Q (.v (.ptr S1.length)) (S1 ++ [.lst xs])
theorem DF.deP {tf : RF} (h : DF G e tf) : DE G e (dOfP tf) := by
  refine ⟨fun {X en W σ H ρ S E pins s Q} z q => thn (h.run z q) fun v s1 ⟨a, H1, W1, vs, xs, S1, I1, ev, ha, rr, h1, g1, n, nf, nm, q1⟩ => ?_⟩
  subst ev
  have h2 : Ho G.B.K (W1.cell a) H1 (S1 ++ [.lst xs]) := h1.cell2 ha nf nm ⟨vs, ha, rr.le Wd.cell_le⟩
  have ea : (W1.cell a).m S1.length = a := by rw [← h1.n, Wd.cell_new]
  refine ⟨.ref a, H1, I1, rfl, W1.cell a, .v (.ptr S1.length), S1 ++ [.lst xs], h2, Go.cell2 g1 n, ?_, q1⟩
  have z : Rep G.B.K (W1.cell a) (.ptr S1.length) (.ref ((W1.cell a).m S1.length)) := .ptr (by show S1.length < W1.n + 1; rw [h1.n]; exact Nat.lt_succ_self _)
  rw [ea] at z
  exact z
end
end Dt

set_option Elab.async false
set_option linter.all false
set_option maxRecDepth 100000
set_option maxHeartbeats 8000000
/-! DatZZA: `x[i] += e` on a list; isdigit of a text -/
namespace Dt
open PySem PySem.Spec PyProof.Rows L2 My He
/-- an item read for `x[i] += e` -/
def rGiL (K : PySem.W.Frag) : R2 := fun x y H Q => ∃ p xs i v, x = .ref p ∧ y = .int i ∧ SqL K H p xs ∧ 0 ≤ i ∧ atI xs i = some v ∧ Q v H
theorem gi_list {X : L2.Cx} : OpR X getItem (rGiL X.K) := by
  intro pins s σ H x y v u Q I rx ry h
  obtain ⟨p, xs, i, z, rfl, rfl, hq, h0, he, q⟩ := h
  cases rx
  obtain ⟨t, rfl⟩ := ry
  obtain ⟨its, r, pl, hz⟩ := I.list hq
  obtain ⟨j, h1, h2, h3, h4, h5⟩ := atI_get he
  obtain ⟨w, ew, rw'⟩ := r.get h2
  have hl := r.length
  have hn := line63
  have hj : i.toNat = j := by
    rw [seqIndex_of h0 h5] at h1
    exact Option.some.inj h1
  exact PyProof.Rows.getItem_listL pl.isList h0 (by omega) (by rw [hj]; exact ew) ⟨z, H, I, rw', q⟩
theorem gi_listK {X : L2.Cx} {K : PySem.W.Frag} (h : X.K = K) : OpR X getItem (rGiL K) := by subst h; exact gi_list
section
variable {B : Bs} {k : Nat} {S : Sto} {Ex : XS} {Q : QO} {xs : List D} {d : D} {i j : Int}
theorem s_giL {o : O} (h : LsO S o xs) (h0 : 0 ≤ i) (e : L2.atI xs i = some d) (q : Q (.v d) S) : sem2 B k getItem o (.v (.int i)) S Ex Q := lift2 (fun ft => gi_listK ft.K) fun en W H x' y' ho rx ry => by
  cases ry
  obtain ⟨a, vs, rfl, e1, rr⟩ := lsO_at ho h rx
  obtain ⟨v, e2, rv⟩ := rr.atI e
  exact ⟨a, vs, i, v, rfl, rfl, .inl e1, h0, e2, nx ho rv q⟩
theorem op_iadd {X : L2.Cx} : OpR X (inplaceOp .Add) rAdd := fun pins s σ H x y v u Q I rx ry h => in_add pins s σ H x y v u Q I rx ry h
theorem s_iadd (q : Q (.v (.int (i + j))) S) : sem2 B k (inplaceOp .Add) (.v (.int i)) (.v (.int j)) S Ex Q := lift2 (fun _ => op_iadd) fun en W H x' y' ho rx ry => by
  cases rx
  cases ry
  exact ⟨i, j, rfl, rfl, nx ho (.int _) q⟩
/-- isdigit of a text of one sign -/
theorem m_isdigit {x : Str} {b : Bool} (e : Txt.isdigit x = b) (q : Q (.v (.bl b)) S) : sCall B k (.builtin "str.isdigit") [] [.v (.str x)] [] S Ex Q := liftM (fun _ => mt_isdigit) fun en W H x' xs' ho rx rxs => by
  cases rx
  cases rxs
  subst e
  exact ⟨x, rfl, rfl, trivial, nx ho (.bl _) q⟩
end
section
variable {G : Cf} {X : Cx} {en : En} {W W1 : Wd} {σ : L2.St} {H H1 : Hp} {ρ : List Sl} {S S1 : Sto} {E : XD} {pins : List (Addr × Obj)} {s s1 : Shared} {e a b : Expr} {ta tb tv : RE} {pos pos' : Pos}
def dSubA (B : Bs) (k : Nat) (ta tb tv : RE) : RS := fun D ρ S => ta ρ S D.ex fun x S1 => tb ρ S1 D.ex fun y S2 => sem2 B k getItem x y S2 (D.ex ρ) fun o S3 => tv ρ S3 D.ex fun v S4 =>
  sem2 B k (inplaceOp .Add) o v S4 (D.ex ρ) fun r S5 => ∃ d, r = .v d ∧ sSet B k x y d S5 fun S6 => D.nx ρ S6
theorem ds_aug (ha : DE G a ta) (hb : DE G b tb) (hv : DE G e tv) (hs : ∀ ov iv new, augStore b ov iv new = (do holding [new, ov, iv] (setItem ov iv new); release [new, ov, iv] []; pure .next) := by intro _ _ _; rfl) : DS G (.AugAssign (.Subscript a b pos') .Add e pos) (dSubA G.B G.k ta tb tv) := by
  refine ⟨fun {X en W σ H ρ S pins s D} z q => ?_⟩
  refine PyProof.Rows.wpAny_AugAssign_Subscript_any (ha.at z q fun ov s1 x' H1 W1 o1 S1 z1 g1 r1 ro1 q1 => hb.at z1 q1 fun iv s2 y' H2 W2 o2 S2 z2 g2 r2 ro2 q2 => ?_) hs
  refine z2.op2' r1 (ro1.go g2) r2 ro2 q2 fun old s3 v3 H3 W3 o3 S3 z3 g3 r3 ro3 q3 => hv.at z3 q3 fun w s4 v4 H4 W4 o4 S4 z4 g4 r4 ro4 q4 => ?_
  refine z4.op2' r3 (ro3.go g4) r4 ro4 q4 fun nw s5 v5 H5 W5 o5 S5 z5 g5 r5 ro5 ⟨d, eo, q5⟩ => ?_
  subst eo
  refine thn (q5 X en W5 σ H5 z5.hf.b z5.rs.ho x' y' v5 ((((ro1.go g2).go g3).go g4).go g5) (((ro2.go g3).go g4).go g5) ro5 pins s5 ov iv nw z5.I r1 r2 r5) fun _ s6 ⟨H6, S6, I6, h6, g6, q6⟩ => ?_
  exact ⟨σ, H6, I6, W5, ρ, S6, z5.rs.after h6 g6, (((g1.le.trans g2.le).trans g3.le).trans g4.le).trans g5.le, q6⟩
end
end Dt

set_option Elab.async false
set_option linter.all false
set_option maxRecDepth 100000
set_option maxHeartbeats 8000000
/-! DatZZB: o[:c] = list, o[a:] = list -/
namespace Dt
open PySem PySem.Spec PyProof.Rows L2 My He SX
section
variable {prog : Program} {w : World} {A : Around} {E : Value → Shared → Prop} {s : Shared}
/-- the parts of a slice of step one -/
theorem parts_at {sl : Addr} {vl vu : Value} {lo hi : Option Int} {Q : Value × Value × Value → Shared → Prop} (hs : s.heap.IsSliceOf sl vl vu .none) (pl : IsPart vl lo) (pu : IsPart vu hi) (h : Q (rawPart lo, rawPart hi, rawPart none) s) :
    wpAny (model prog w) A (Builtin.List.listSliceParts (.ref sl)) Q E s := by
  obtain ⟨o1, k1, _, k3⟩ := id hs
  rw [listSliceParts_eq]
  refine wpAny_bind (wpAny_field k1 k3 (x := .none) rfl (wpAny_bind (wpAny_listPart .none ?_)))
  rw [if_neg (show ¬ ((rawPart none == rawInt 0) = true) from Bool.false_ne_true)]
  exact wpAny_bind (wpAny_field k1 k3 (x := vl) rfl (wpAny_bind (wpAny_listPart pl (wpAny_bind (wpAny_field k1 k3 (x := vu) rfl (wpAny_bind (wpAny_listPart pu (wpAny_pure h))))))))
theorem put_slG {l b sl : Addr} {xs ys : Array Value} {n1 n2 : Nat} {vl vu : Value} {lo hi : Option Int} {a c : Nat} {Q : Unit → Shared → Prop}
    (o1 : s.heap.get? l = some { cls := .type "list", data := .seq xs n1 }) (o2 : s.heap.get? b = some { cls := .type "list", data := .seq ys n2 }) (lb : l ≠ b)
    (sp : s.heap.IsSliceOf sl vl vu .none) (pl : IsPart vl lo) (pu : IsPart vu hi) (bd : sliceBounds lo hi none xs.size = ((a : Int), (c : Int), 1)) (ac : a ≤ c) (cn : c ≤ xs.size) (sz : xs.size + ys.size ≤ sizeLine)
    (q : Q () { s with heap := s.heap.update l (Obj.mapSeq fun zs => zs.extract 0 a ++ ys ++ zs.extract c zs.size) }) : wpAny (model prog w) A (setItem (.ref l) (.ref sl) (.ref b)) Q E s := by
  have L1 : s.heap.IsList l xs := PySem.IsL.isList o1
  have L2 : s.heap.IsList b ys := PySem.IsL.isList o2
  obtain ⟨os, k1, k2, k3⟩ := id sp
  have Ts : s.TypeIs (.ref sl) "slice" := ⟨os, k1, k2⟩
  have ne : Builtin.List.listSameRef (.ref l) (.ref b) = false := beq_eq_false_iff_ne.mpr lb
  have mx : (max (a : Int) (c : Int)).toNat = c := by omega
  have z2 : ((fun zs : Array Value => zs.extract 0 a ++ ys ++ zs.extract c zs.size) xs).size ≤ sizeLine + 1 := by
    simp only [Array.size_append, Array.size_extract]
    omega
  unfold setItem
  try with_reducible refine wpAny_holding ?_
  first | refine wpAny_bind (wpAny_pure ?_) | skip
  refine wpAny_bind (wpAny_sequenceKey L1.typeIs (by decide) (wpAny_bind (wpAny_callSpecial?_slot (name := Str.ofString "__setitem__") L1.typeIs slot_list_setitem (wpAny_call_entry slot_list_setitem L1.typeIs entry_list_setitem ?_ (args_list_setitem _ _ _)))))
  refine (show wpAny _ _ (Builtin.List.listSubscript? (.ref sl) >>= _) _ _ s from wpAny_bind ?_)
  unfold Builtin.List.listSubscript?
  refine wpAny_bind (wpAny_specialOf Ts slice_no_index ?_)
  simp only [Option.isNone_none, if_true]
  refine wpAny_pure (show wpAny _ _ (typeOf (.ref sl) >>= _) _ _ s from wpAny_bind (wpAny_typeOf Ts ?_))
  first
    | rw [if_neg (by decide)]
    | refine PySem.W.KFB.if_not (by decide) ?_
  refine wpAny_bind (parts_at sp pl pu ?_)
  first
    | simp only [ne, Bool.false_eq_true, if_false]
    | refine PySem.W.KFB.if_not ne ?_
  refine wpAny_bind (m := Builtin.List.listAllItems (.ref b) "must assign iterable to extended slice") ?_
  unfold Builtin.List.listAllItems
  refine wpAny_bind (wpAny_typeOf L2.typeIs ?_)
  first
    | refine PySem.W.KFB.if_so (by decide) ?_
    | rw [if_pos (by decide)]
  unfold Builtin.List.listItems
  refine wpAny_bind (wpAny_seqItems o2 rfl (wpAny_pure (wpAny_bind (wpAny_bind (wpAny_seqItems o1 rfl (wpAny_pure ?_))))))
  refine wpAny_bind (wpAny_of_eq ((sliceIndices_raw lo hi none xs.size (by simp)).trans (congrArg (pure : Int × Int × Int → Sem (Int × Int × Int)) bd)) ?_)
  refine (show wpAny _ _ (if ((1 : Int) == 1) = true then _ else _) _ _ s from ?_)
  rw [if_pos (by decide)]
  refine wpAny_bind (wpAny_rule ?_)
  first
    | simp only [notLongL sz, Bool.false_eq_true, if_false]
    | refine PySem.W.KFB.if_not (notLongL sz) ?_
  first | refine wpAny_bind (wpAny_pure ?_) | skip
  refine (show wpAny _ _ (updateSeq l (fun zs => zs.extract 0 ((a : Int)).toNat ++ ys ++ zs.extract (max (a : Int) (c : Int)).toNat zs.size) >>= _) _ _ s from ?_)
  rw [mx, Int.toNat_natCast]
  refine wpAny_bind (wpAny_updateSeq (hz := Nat.le_trans (Nat.le_add_right _ _) sz) (_hz' := z2) o1 rfl (wpAny_bind (wpAny_letGo ?_)))
  first
    | exact wpAny_bind (wpAny_pure (wpAny_pure ⟨.none, rfl, wpAny_pure q⟩))
    | exact wpAny_pure ⟨.none, rfl, wpAny_pure q⟩
end
/-- a part of a slice, where it is left out the end of the list -/
def PtIs (l : Option Int) (a d : Nat) : Prop := l = some (a : Int) ∨ (l = none ∧ a = d)
theorem bounds_of {l u : Option Int} {a c n : Nat} (pl : PtIs l a 0) (pu : PtIs u c n) (hac : a ≤ c) (hc : c ≤ n) : sliceBounds l u none n = ((a : Int), (c : Int), 1) := by
  have n1 : ¬ ((a : Int) < 0) := by omega
  have n2 : ¬ ((c : Int) < 0) := by omega
  have m1 : max (0 : Int) (min (a : Int) n) = a := by omega
  have m2 : max (0 : Int) (min (c : Int) n) = c := by omega
  rcases pl with rfl | ⟨rfl, rfl⟩ <;> rcases pu with rfl | ⟨rfl, rfl⟩ <;> simp only [sliceBounds, Option.getD_none, n1, n2, if_false, show (1 : Int) > 0 by decide, if_true, m1, m2, Int.natCast_zero]
theorem put_sliceG {X : Cx} {pins : List (Addr × Obj)} {s : Shared} {σ : L2.St} {H : Hp} {l b sl : Addr} {xs ys : List V} {lo hi : Option Int} {a c : Nat} {vl vu : Value} {Q : Unit → Shared → Prop} (I : Inv X pins σ H s) (hH : H l = some (.lst xs)) (hB : Rd H b (.lst ys)) (hne : l ≠ b)
    (hs : s.heap.IsSliceOf sl vl vu .none) (pl : IsPart vl lo) (pu : IsPart vu hi) (tl : PtIs lo a 0) (tu : PtIs hi c xs.length) (hac : a ≤ c) (hc : c ≤ xs.length) (hz : xs.length + ys.length ≤ sizeLine) (h : ∀ s', Inv X pins σ (upd H l (.lst (xs.take a ++ ys ++ xs.drop c))) s' → Q () s') :
    wpAny (model X.prog X.w) X.A (setItem (.ref l) (.ref sl) (.ref b)) Q X.xe s := by
  obtain ⟨z, its, n, r, hl, e⟩ := I.lstM hH
  obtain ⟨z2, its2, n2, r2, hl2, e2⟩ := lstR I hB
  rw [hl] at tu hc hz
  refine put_slG (a := a) (c := c) e e2 hne hs pl pu (by rw [List.size_toArray]; exact bounds_of tl tu hac hc) hac (by rw [List.size_toArray]; exact hc) (by rw [List.size_toArray, List.size_toArray]; omega) (h _ ?_)
  refine I.lset (its' := its.take a ++ its2 ++ its.drop c) (t' := s.toks) hH e (splice_eq its its2 a c) (Vals.append (Vals.append (r.take _) r2) (r.drop _)) ?_
  rw [List.length_append, List.length_append, List.length_take, List.length_drop]
  omega
section
variable {G : Cf} {X : Cx} {en : En} {W W1 : Wd} {σ : L2.St} {H H1 : Hp} {ρ : List Sl} {S S1 : Sto} {pins : List (Addr × Obj)} {s s1 : Shared} {e a : Expr} {lo hi : Option Expr} {ta tv : RE} {tl th : RO} {pos pos' p2 : Pos}
def dSetSlG (tv ta : RE) (tl th : RO) : RS := fun De ρ S => tv ρ S De.ex fun v S1 => ∃ ys, v = .v (.lst ys) ∧ ta ρ S1 De.ex fun o S2 => tl ρ S2 De.ex fun l S3 => th ρ S3 De.ex fun u S4 => ∃ (n : Nat) (xs : List D) (a c : Nat), o = .v (.ptr n) ∧ PtIs l a 0 ∧ PtIs u c xs.length ∧ S4[n]? = some (.lst xs) ∧ a ≤ c ∧ c ≤ xs.length ∧ xs.length + ys.length ≤ sizeLine ∧ De.nx ρ (S4.set n (.lst (xs.take a ++ ys ++ xs.drop c)))
theorem ds_setSlG (hv : DE G e tv) (ha : DE G a ta) (hl : DO G lo tl) (hu : DO G hi th) (hs : ∀ env : Env, swapsWith e (some (.Subscript a (.Slice lo hi none p2) pos')) pos.line env = pure false := by intro _; rfl) : DS G (.Assign [.Subscript a (.Slice lo hi none p2) pos'] e pos) (dSetSlG tv ta tl th) := by
  refine ⟨fun {X en W σ H ρ S pins s De} z q => ?_⟩
  refine wpAny_Assign_Subscript (hv.at z q fun u s1 v' H1 W1 o1 S1 z1 g1 r1 ro ⟨ys, eo, q1⟩ => ha.at z1 q1 fun ov s2 x' H2 W2 o2 S2 z2 g2 r2 ro2 q2 => ?_) (hs _)
  subst eo
  refine wpAny_Slice (thn (hl.run z2 q2) fun vl s3 ⟨l, H3, W3, S3, z3, g3, pl, q3⟩ => thn (hu.run z3 q3) fun vu s4 ⟨w, H4, W4, S4, z4, g4, pu, q4⟩ => ?_)
  obtain ⟨n, xs, a, c, rfl, tl1, tu1, en, hac, hc, hz, q5⟩ := q4
  rw [evalPart_none]
  refine wpAny_pure ?_
  have I4 : Inv X pins σ H4 { s4 with heap := s4.heap.push { cls := .type "slice", data := .fields #[vl, vu, .none] } } := z4.I.kept (t' := s4.toks) fun b ob q => Heap.get?_push_of_some _ q
  have g24 := g3.trans g4 z4.rs.ho
  cases ro with
  | lst hb rr =>
    rename_i vs b
    obtain rfl : u = Value.ref b := r1
    have ro3 := RepO.go g24 (o := .v (.ptr n)) ro2
    obtain ⟨us, e1, ru⟩ := z4.rs.ho.cel _ _ en
    have le := (g2.trans g24 z4.rs.ho).le
    have hb4 := rd_le z4.rs.ho.fh (rd_le le.f hb)
    have hn := cell_lt z4.rs.ho en
    have ex : x' = .ref (W4.m n) := by
      cases ro3
      rfl
    subst ex
    obtain rfl : ov = Value.ref (W4.m n) := r2
    have ne : W4.m n ≠ b := fun z => by
      have f := z4.rs.ho.mF n hn
      rw [z] at f
      rcases rd_le le.f hb with k | ⟨o, k⟩
      · rw [f] at k
        cases k
      · rw [f] at k
        cases k
    refine put_sliceG I4 e1 hb4 ne (Heap.IsSliceOf.new ..) pl pu tl1 (by rw [ru.len]; exact tu1) hac (by rw [ru.len]; exact hc) (by rw [ru.len, rr.len]; exact hz) fun s5 I5 => ?_
    have rr4 := Reps.le le rr
    have ho5 := z4.rs.ho.put (c := .lst (xs.take a ++ ys ++ xs.drop c)) (o := .lst (us.take a ++ vs ++ us.drop c)) hn ⟨_, upd_same, (Reps.app (Reps.app (ru.take a) rr4) (ru.drop c))⟩
    exact ⟨σ, _, I5, W4, ρ, _, z4.rs.after ho5 (Go.put hn), (g1.le.trans le), q5⟩
end
theorem q_setSlG {tv ta : RE} {tl th : RO} {nx bk ct : List Sl → Sto → Prop} {rt : D → List Sl → Sto → Prop} {ex : XD} {ρ : List Sl} {S : Sto} (h : tv ρ S ex fun v S1 => ∃ ys, v = .v (.lst ys) ∧ ta ρ S1 ex fun o S2 => tl ρ S2 ex fun l S3 => th ρ S3 ex fun u S4 => ∃ (n : Nat) (xs : List D) (a c : Nat), o = .v (.ptr n) ∧ PtIs l a 0 ∧ PtIs u c xs.length ∧ S4[n]? = some (.lst xs) ∧ a ≤ c ∧ c ≤ xs.length ∧ xs.length + ys.length ≤ sizeLine ∧ nx ρ (S4.set n (.lst (xs.take a ++ ys ++ xs.drop c)))) : dSetSlG tv ta tl th ⟨nx, rt, bk, ct, ex⟩ ρ S := h
end Dt

set_option Elab.async false
set_option linter.all false
set_option maxRecDepth 100000
set_option maxHeartbeats 8000000
/-! DatZZC: name = [..] on one line, the list a cell of the store -/
namespace Dt
open PySem PySem.Spec PyProof.Rows L2 My He
section
variable {G : Cf} {X : Cx} {en : En} {W W1 : Wd} {σ : L2.St} {H H1 : Hp} {ρ : List Sl} {S S1 : Sto} {pins : List (Addr × Obj)} {s s1 : Shared} {e a b c o tg : Expr} {es : List Expr} {t ta tb tc te to ti : RE} {tA tK : RA} {pos p apos : Pos} {x m : Str} {st : Stmt} {rest : List Stmt} {ts us : RS}
def dAsgCP (i : Nat) (tf : RF) : RS := fun D ρ S => tf ρ S D.ex fun xs S1 => D.nx (ρ.set i (.sh (.ptr S1.length))) (S1 ++ [.lst xs])
theorem ds_setLcP {i : Nat} {y : Str} {py spos : Pos} {iter elt : Expr} {ifs : List Expr} {scope : Scope} {own : List (Str × Nat)} {ws : List Nat} {ti : RI} {g : RG} {tt : RT} {te : RE} (hc : G.B.cal = false) (hw : ∀ j, j ∈ ws → j ∈ own.map (·.2)) (hy : G.N[i]? = some y) (hyl : G.sc.names.lookup y = some .local)
    (hsw : ∀ env : Env, env.scope = G.sc → swapsWith (.ListComp elt [⟨tg, iter, ifs, 0⟩] scope pos) (some (.Name y py)) spos.line env = pure true) (hi : DI G tg iter ti) (ok : BlkOk G.N G.sc scope own) (hg : DG (G.blk scope) tg ws g) (ht : DTs (G.blk scope) ifs tt) (he : DE (G.blk scope) elt te)
    (hs : ∀ (env : Env) x, foldedSetIterable iter env x = pure x := by intro _ _; rfl) : DS G (.Assign [.Name y py] (.ListComp elt [⟨tg, iter, ifs, 0⟩] scope pos) spos) (dAsgCP i (fLc ti g tt te (own.map (·.2)))) := by
  refine ⟨fun {X en W σ H ρ S pins s D} z q => ?_⟩
  have PP := ps_setLc (X := X) (i := i) (y := y) (py := py) (spos := spos) (elt := elt) (tg := tg) (iter := iter) (ifs := ifs) (scope := scope) (own := own) (pos := pos) (wi := tIr X tg iter) (g := tGb X scope tg) (tt := tTb X scope ifs) (te := tEb X scope elt) (z.hf.b.cm hc).1 z.hf.nd (by rw [z.hf.N]; exact hy) (by rw [z.hf.sc]; exact hyl) (hsw _ z.hf.sc) (ican X tg iter) (by rw [z.hf.N, z.hf.sc]; exact ok)
    (fun s H C cl fp => ⟨fun pins s' σ H v u Q I r h => h _ _ _ _ _ pins s' u I r⟩) (fun s H C cl fp => ⟨fun pins s' σ H Q I h => h _ _ _ _ _ pins s' I⟩) (fun s H C cl fp => ⟨fun pins s' σ H Q I h => h _ _ _ _ _ pins s' I⟩) (hs _)
  have rd := lc_read hc hw hi hg ht he z q
  have mono : ∀ {F F' : VK}, (∀ v H, F v H → F' v H) → tLc (tIr X tg iter) (tGb X scope tg) (tTb X scope ifs) (tEb X scope elt) (own.map (·.2)) σ H F → tLc (tIr X tg iter) (tGb X scope tg) (tTb X scope ifs) (tEb X scope elt) (own.map (·.2)) σ H F' := fun {F F'} hF h pins' s' I => thn (h pins' s' I) fun v s1 h1 => thn h1 fun itv s2 h2 => pi_imp (fun J H1 k L hL => by
    obtain ⟨Wv, m0, st⟩ := k L hL
    exact ⟨Wv, m0, fun i m H w => (st i m H w).imp (fun ⟨p1, p2⟩ => ⟨p1, hF _ _ p2⟩) id⟩) h2
  refine PP.run pins s σ H _ z.I (mono (fun v H1 ⟨a, W1, vs, xs, S1, e, ha, rr, h1, g1, n, nf, nm, q1⟩ => ?_) rd)
  subst e
  have h2 : Ho G.B.K (W1.cell a) H1 (S1 ++ [.lst xs]) := h1.cell2 ha nf nm ⟨vs, ha, rr.le Wd.cell_le⟩
  have ea : (W1.cell a).m S1.length = a := by rw [← h1.n, Wd.cell_new]
  have zz : Rep G.B.K (W1.cell a) (.ptr S1.length) (.ref ((W1.cell a).m S1.length)) := .ptr (by show S1.length < W1.n + 1; rw [h1.n]; exact Nat.lt_succ_self _)
  rw [ea] at zz
  have g2 := Go.cell2 g1 n
  exact ⟨W1.cell a, _, S1 ++ [.lst xs], (z.rs.after h2 g2).set i (s := .sh (.ptr S1.length)) rfl ⟨.ref a, rfl, zz⟩, g2.le, q1⟩
end
theorem q_asgCP {i : Nat} {tf : RF} {nx bk ct : List Sl → Sto → Prop} {rt : D → List Sl → Sto → Prop} {ex : XD} {ρ : List Sl} {S : Sto} (h : tf ρ S ex fun xs S1 => nx (ρ.set i (.sh (.ptr S1.length))) (S1 ++ [.lst xs])) : dAsgCP i tf ⟨nx, rt, bk, ct, ex⟩ ρ S := h
end Dt

set_option Elab.async false
set_option linter.all false
set_option maxRecDepth 100000
set_option maxHeartbeats 8000000
/-! DatZZD: a op b op c op d -/
namespace Dt
open PySem PySem.Spec PyProof.Rows L2 My He
section
variable {G : Cf} {a b c d : Expr} {ta tb tc td : RE} {pos : Pos}
end
end Dt

set_option Elab.async false
set_option linter.all false
set_option maxRecDepth 100000
set_option maxHeartbeats 8000000
/-! DatZZE: for x in reversed(range(n)) -/
namespace Dt
open PySem PySem.Spec PyProof.Rows L2 My He
section
variable {G : Cf} {e tg : Expr} {te : RE} {pos p p2 pos2 : Pos}
end
end Dt

set_option Elab.async false
set_option linter.all false
set_option maxRecDepth 100000
set_option maxHeartbeats 8000000
/-! DatZZF: branches behind a test with `and` that meet again -/
namespace Dt
open PySem PySem.Spec PyProof.Rows L2 My
section
variable {c : Prop} [Decidable c] {ρ : List Sl} {S : Sto} {α : Type}
end
end Dt

set_option Elab.async false
set_option linter.all false
set_option maxRecDepth 100000
set_option maxHeartbeats 8000000
/-! DatZZG: list.extend by a list that is made there -/
namespace Dt
open PySem PySem.Spec PyProof.Rows L2 My
section
variable {B : Bs} {k : Nat} {S : Sto} {Ex : XS} {Q : QO}
theorem m_extendP {n n2 : Nat} {xs ys : List D} (e : S[n]? = some (.lst xs)) (e0 : S[n2]? = some (.lst ys)) (h : xs.length + ys.length ≤ sizeLine) (q : Q (.v .non) (S.set n (.lst (xs ++ ys)))) : sCall B k (.builtin "list.extend") [] [.v (.ptr n), .v (.ptr n2)] [] S Ex Q := liftM (fun ft => mt_extend) fun en W H x' xs' ho rx rxs => by
  cases rx
  cases rxs with
  | cons r t =>
    cases t
    cases r
    obtain ⟨vs, e1, rr⟩ := ho.cel _ _ e
    obtain ⟨us, e2, r2⟩ := ho.cel _ _ e0
    exact ⟨_, _, vs, us, rfl, rfl, e1, e2, by rw [rr.len, r2.len]; exact h, nxPL ho e (rr.app r2) .non q⟩
end
end Dt

set_option Elab.async false
set_option linter.all false
set_option maxRecDepth 100000
set_option maxHeartbeats 8000000
/-! Pln (plain): rows of plans, what their states lead to, runs along them -/
namespace Pln
open PySem
def isS (c : Nat) : Bool := c == 45 || (decide (48 ≤ c) && decide (c ≤ 55))
/-- a state is reached from the row before -/
def ent (b : List Nat) (k : Nat) : Bool := (decide (0 < k) && b[k - 1]? == some 45) || b[k]? == some 45
/-- a row that fits the row before it -/
def fit (row b : List Nat) : Bool := decide (row.length = b.length + 1) && (List.range row.length).all fun k => (ent b k == isS (row.getD k 0)) && (isS (row.getD k 0) || row.getD k 0 == 46)
def sgn (rs : List (List Nat)) (m k : Nat) : Nat := (rs.getD m []).getD k 0
/-- the classes that stand in rows -/
def cls (rs : List (List Nat)) : List Nat := (List.range 8).filter fun n => decide (48 + n ∈ rs.flatten)
/-- what a row's states lead to, from those of the row below -/
def entry (row : List Nat) (below : List (List Nat)) : List (List Nat) := (List.range row.length).map fun k =>
  if row.getD k 0 = 45 then (List.range 8).filter fun n => decide (n ∈ below.getD k [] ∨ n ∈ below.getD (k + 1) [])
  else if row.getD k 0 = 46 then [] else [row.getD k 0 - 48]
def leads : List (List Nat) → List (List (List Nat))
  | [] => []
  | row :: rest => entry row ((leads rest).headD []) :: leads rest
def lead (rs : List (List Nat)) (m k : Nat) : List Nat := ((leads rs).getD m []).getD k []
theorem leads_len : ∀ rs, (leads rs).length = rs.length
  | [] => rfl
  | r :: rs => by rw [leads, List.length_cons, List.length_cons, leads_len rs]
theorem lead_succ (r : List Nat) (rs : List (List Nat)) (m k : Nat) : lead (r :: rs) (m + 1) k = lead rs m k := by
  unfold lead
  rw [leads, List.getD_cons_succ]
theorem sgn_succ (r : List Nat) (rs : List (List Nat)) (m k : Nat) : sgn (r :: rs) (m + 1) k = sgn rs m k := by
  unfold sgn
  rw [List.getD_cons_succ]
theorem lead_eq : ∀ (rs : List (List Nat)) (m k : Nat), m < rs.length → k < (rs.getD m []).length → lead rs m k =
    if sgn rs m k = 45 then (List.range 8).filter fun n => decide (n ∈ lead rs (m + 1) k ∨ n ∈ lead rs (m + 1) (k + 1))
    else if sgn rs m k = 46 then [] else [sgn rs m k - 48]
  | [], m, k, h, _ => absurd h (Nat.not_lt_zero _)
  | r :: rs, 0, k, _, hk => by
    have hk : k < r.length := hk
    have e : ∀ j, lead (r :: rs) (0 + 1) j = ((leads rs).headD []).getD j [] := fun j => by
      rw [lead_succ]
      unfold lead
      cases leads rs <;> rfl
    rw [e, e]
    show (entry r ((leads rs).headD [])).getD k [] = _
    unfold entry
    rw [List.getD_eq_getElem?_getD, List.getElem?_map, List.getElem?_range hk] <;> rfl
  | r :: rs, m + 1, k, h, hk => by
    rw [lead_succ, lead_succ, lead_succ, sgn_succ]
    exact lead_eq rs m k (Nat.lt_of_succ_lt_succ h) hk
/-- rows are written as a plan's -/
structure Ok (rs : List (List Nat)) : Prop where
  two : 2 ≤ rs.length
  most : rs.length ≤ 21
  one : rs.getD 0 [] = [45]
  fits : ∀ i, i + 1 < rs.length → fit (rs.getD (i + 1) []) (rs.getD i []) = true
  ends : 45 ∉ rs.getD (rs.length - 1) []
  some_ : ∃ c ∈ rs.getD (rs.length - 1) [], c ≠ 46
  many : 2 ≤ (cls rs).length
  all_ : cls rs = List.range (cls rs).length
/-- no place at which one mark more makes the class less, told by the states alone -/
def Rising (rs : List (List Nat)) : Prop := ∀ m k, m + 1 < rs.length → k ≤ m → sgn rs m k = 45 → (sgn rs (m + 1) k ≠ 45 ∨ sgn rs (m + 1) (k + 1) ≠ 45) → ∀ a ∈ lead rs (m + 1) k, ∀ b ∈ lead rs (m + 1) (k + 1), a ≤ b
theorem Ok.len {rs : List (List Nat)} (h : Ok rs) : ∀ i, i < rs.length → (rs.getD i []).length = i + 1
  | 0, _ => by rw [h.one] <;> rfl
  | i + 1, hi => by
    have f := h.fits i hi
    unfold fit at f
    rw [Bool.and_eq_true] at f
    rw [of_decide_eq_true f.1, h.len i (Nat.lt_of_succ_lt hi)]
/-- the state, and its class, at which a run along marks stops -/
def run (rs : List (List Nat)) : Nat → Nat → Nat → List Nat → Option (Nat × Nat)
  | 0, _, _, _ => none
  | f + 1, m, k, ms => if sgn rs m k = 45 then (match ms with
    | [] => none
    | x :: xs => run rs f (m + 1) (k + x) xs) else some (sgn rs m k - 48, m)
/-- where a run stops is a class to which its beginning leads -/
theorem run_lead {rs : List (List Nat)} (h : Ok rs) : ∀ (f m k : Nat) (ms : List Nat) (r : Nat × Nat), m < rs.length → k ≤ m → (∀ x ∈ ms, x ≤ 1) → sgn rs m k ≠ 46 → isS (sgn rs m k) = true → run rs f m k ms = some r → r.1 ∈ lead rs m k
  | 0, _, _, _, _, _, _, _, _, _, e => by cases e
  | f + 1, m, k, ms, r, hm, hk, hx, hd, hs, e => by
    rw [lead_eq rs m k hm (by rw [h.len m hm]; omega)]
    unfold run at e
    split at e
    · rename_i h45
      rw [if_pos h45]
      cases ms with
      | nil => cases e
      | cons x xs =>
        have x1 := hx x (List.mem_cons_self ..)
        have hm1 : m + 1 < rs.length := by
          rcases Nat.lt_or_ge (m + 1) rs.length with z | z
          · exact z
          · exfalso
            have em : m = rs.length - 1 := by omega
            refine h.ends ?_
            rw [← em]
            have hl := h.len m hm
            have hk2 : k < (rs.getD m []).length := by omega
            have : (rs.getD m []).getD k 0 = 45 := h45
            rw [List.getD_eq_getElem?_getD, List.getElem?_eq_getElem hk2] at this
            exact this ▸ List.getElem_mem hk2
        have f1 := h.fits m hm1
        unfold fit at f1
        rw [Bool.and_eq_true, List.all_eq_true] at f1
        have hl := h.len (m + 1) hm1
        have g := f1.2 (k + x) (List.mem_range.mpr (by omega))
        rw [Bool.and_eq_true, beq_iff_eq] at g
        have en : ent (rs.getD m []) (k + x) = true := by
          have hk2 : k < (rs.getD m []).length := by rw [h.len m hm]; omega
          have e45 : (rs.getD m [])[k]? = some 45 := by
            have : (rs.getD m []).getD k 0 = 45 := h45
            rw [List.getD_eq_getElem?_getD, List.getElem?_eq_getElem hk2] at this
            rw [List.getElem?_eq_getElem hk2]
            exact congrArg some this
          unfold ent
          rcases (show x = 0 ∨ x = 1 by omega) with rfl | rfl
          · rw [Nat.add_zero, e45]; simp
          · rw [Nat.add_sub_cancel, e45]; simp
        rw [en] at g
        have s1 : isS (sgn rs (m + 1) (k + x)) = true := g.1.symm
        have ih := run_lead h f (m + 1) (k + x) xs r hm1 (by omega) (fun y hy => hx y (List.mem_cons_of_mem _ hy)) (fun z => by rw [z] at s1; cases s1) s1 e
        have r8 : r.1 < 8 := by
          rw [lead_eq rs (m + 1) (k + x) hm1 (by omega)] at ih
          split at ih
          · exact List.mem_range.mp (List.mem_filter.mp ih).1
          · split at ih
            · cases ih
            · rename_i n45 _
              rw [List.mem_singleton.mp ih]
              unfold isS at s1
              simp at s1
              omega
        refine List.mem_filter.mpr ⟨List.mem_range.mpr r8, decide_eq_true ?_⟩
        rcases (show x = 0 ∨ x = 1 by omega) with rfl | rfl
        · exact .inl ih
        · exact .inr ih
    · rename_i h45
      cases e
      rw [if_neg h45, if_neg hd]
      exact List.mem_singleton.mpr rfl
theorem Ok.next {rs : List (List Nat)} (h : Ok rs) {m k x : Nat} (hm : m + 1 < rs.length) (hk : k ≤ m) (h45 : sgn rs m k = 45) (x1 : x ≤ 1) : isS (sgn rs (m + 1) (k + x)) = true ∧ sgn rs (m + 1) (k + x) ≠ 46 := by
  have f1 := h.fits m hm
  unfold fit at f1
  rw [Bool.and_eq_true, List.all_eq_true] at f1
  have hl := h.len (m + 1) hm
  have g := f1.2 (k + x) (List.mem_range.mpr (by omega))
  rw [Bool.and_eq_true, beq_iff_eq] at g
  have en : ent (rs.getD m []) (k + x) = true := by
    have hk2 : k < (rs.getD m []).length := by rw [h.len m (by omega)]; omega
    have e45 : (rs.getD m [])[k]? = some 45 := by
      have : (rs.getD m []).getD k 0 = 45 := h45
      rw [List.getD_eq_getElem?_getD, List.getElem?_eq_getElem hk2] at this
      rw [List.getElem?_eq_getElem hk2]
      exact congrArg some this
    unfold ent
    rcases (show x = 0 ∨ x = 1 by omega) with rfl | rfl
    · rw [Nat.add_zero, e45]; simp
    · rw [Nat.add_sub_cancel, e45]; simp
  rw [en] at g
  have s1 : isS (sgn rs (m + 1) (k + x)) = true := g.1.symm
  exact ⟨s1, fun z => by rw [z] at s1; cases s1⟩
theorem Ok.low {rs : List (List Nat)} (h : Ok rs) {m k : Nat} (hm : m < rs.length) (hk : k ≤ m) (h45 : sgn rs m k = 45) : m + 1 < rs.length := by
  rcases Nat.lt_or_ge (m + 1) rs.length with z | z
  · exact z
  · exfalso
    have em : m = rs.length - 1 := by omega
    refine h.ends ?_
    rw [← em]
    have hl := h.len m hm
    have hk2 : k < (rs.getD m []).length := by omega
    have : (rs.getD m []).getD k 0 = 45 := h45
    rw [List.getD_eq_getElem?_getD, List.getElem?_eq_getElem hk2] at this
    exact this ▸ List.getElem_mem hk2
/-- from two neighbours below a state that goes on, the same marks lead to no lesser class from the one with a mark more -/
theorem pair_le {rs : List (List Nat)} (h : Ok rs) (R : Rising rs) : ∀ (f m k : Nat) (ms : List Nat) (r r' : Nat × Nat), m + 1 < rs.length → k ≤ m → sgn rs m k = 45 → (∀ x ∈ ms, x ≤ 1) → run rs f (m + 1) k ms = some r → run rs f (m + 1) (k + 1) ms = some r' → r.1 ≤ r'.1
  | 0, _, _, _, _, _, _, _, _, _, e, _ => by cases e
  | f + 1, m, k, ms, r, r', hm, hk, h45, hx, e, e' => by
    have n0 := h.next (x := 0) hm hk h45 (by omega)
    have n1 := h.next (x := 1) hm hk h45 (by omega)
    rw [Nat.add_zero] at n0
    by_cases hb : sgn rs (m + 1) k = 45 ∧ sgn rs (m + 1) (k + 1) = 45
    · unfold run at e e'
      rw [if_pos hb.1] at e
      rw [if_pos hb.2] at e'
      cases ms with
      | nil => cases e
      | cons x xs =>
        have x1 := hx x (List.mem_cons_self ..)
        have hm2 := h.low hm (by omega) hb.1
        have p : sgn rs (m + 1) (k + x) = 45 := by
          rcases (show x = 0 ∨ x = 1 by omega) with rfl | rfl
          · exact hb.1
          · exact hb.2
        exact pair_le h R f (m + 1) (k + x) xs r r' hm2 (by omega) p (fun y hy => hx y (List.mem_cons_of_mem _ hy)) e (by rw [show k + x + 1 = k + 1 + x by omega]; exact e')
    · exact R m k hm hk h45 (by
        by_cases z : sgn rs (m + 1) k = 45
        · exact .inr fun y => hb ⟨z, y⟩
        · exact .inl z) _ (run_lead h _ _ _ ms r hm (by omega) hx n0.2 n0.1 e) _ (run_lead h _ _ _ ms r' hm (by omega) hx n1.2 n1.1 e')
/-- enough marks lead to an end -/
theorem run_ends {rs : List (List Nat)} (h : Ok rs) : ∀ (f m k : Nat) (ms : List Nat), m < rs.length → k ≤ m → rs.length ≤ m + f → rs.length ≤ m + 1 + ms.length → (∀ x ∈ ms, x ≤ 1) → ∃ r, run rs f m k ms = some r
  | 0, m, k, ms, hm, _, hf, _, _ => by omega
  | f + 1, m, k, ms, hm, hk, hf, hl, hx => by
    unfold run
    split
    · rename_i h45
      have hm2 := h.low hm hk h45
      cases ms with
      | nil =>
        simp only [List.length_nil] at hl
        omega
      | cons x xs =>
        have x1 := hx x (List.mem_cons_self ..)
        simp only [List.length_cons] at hl
        exact run_ends h f (m + 1) (k + x) xs hm2 (by omega) (by omega) (by omega) fun y hy => hx y (List.mem_cons_of_mem _ hy)
    · exact ⟨_, rfl⟩
/-- one mark more makes no class less -/
theorem rise {rs : List (List Nat)} (h : Ok rs) (R : Rising rs) : ∀ (f m k : Nat) (pre post : List Nat) (r r' : Nat × Nat), m < rs.length → k ≤ m → (∀ x ∈ pre, x ≤ 1) → (∀ x ∈ post, x ≤ 1) → run rs f m k (pre ++ 0 :: post) = some r → run rs f m k (pre ++ 1 :: post) = some r' → r.1 ≤ r'.1
  | 0, _, _, _, _, _, _, _, _, _, _, e, _ => by cases e
  | f + 1, m, k, pre, post, r, r', hm, hk, hp, hq, e, e' => by
    by_cases h45 : sgn rs m k = 45
    · have hm2 := h.low hm hk h45
      cases pre with
      | nil =>
        unfold run at e e'
        rw [if_pos h45] at e e'
        exact pair_le h R f m k post r r' hm2 hk h45 hq e e'
      | cons x xs =>
        have x1 := hp x (List.mem_cons_self ..)
        unfold run at e e'
        rw [if_pos h45] at e e'
        exact rise h R f (m + 1) (k + x) xs post r r' hm2 (by omega) (fun y hy => hp y (List.mem_cons_of_mem _ hy)) hq e e'
    · unfold run at e e'
      rw [if_neg h45] at e e'
      have : r = r' := Option.some.inj (e.symm.trans e')
      rw [this]
      exact Nat.le_refl _
/-- rows with a least and a greatest class for each state, rising along each row -/
structure Good (rs : List (List Nat)) (E : Nat → Nat → Nat × Nat) : Prop where
  len : ∀ m, m < rs.length → (rs.getD m []).length = m + 1
  at_ : ∀ m k, m < rs.length → k ≤ m → sgn rs m k = 46 ∨ (sgn rs m k = 45 ∧ (E m k).1 = (E (m + 1) k).1 ∧ (E m k).2 = (E (m + 1) (k + 1)).2) ∨ ∃ n, n ≤ 7 ∧ sgn rs m k = 48 + n ∧ E m k = (n, n)
  lo : ∀ m k, k < m → (E m k).1 ≤ (E m (k + 1)).1
  hi : ∀ m k, k < m → (E m k).2 ≤ (E m (k + 1)).2
theorem lead_out {rs : List (List Nat)} {m k : Nat} (h : rs.length ≤ m) : lead rs m k = [] := by
  unfold lead
  have e : (leads rs).getD m [] = [] := by
    rw [List.getD_eq_getElem?_getD, List.getElem?_eq_none (show (leads rs).length ≤ m by rw [leads_len]; exact h)] <;> rfl
  rw [e] <;> rfl
theorem good_lead {rs : List (List Nat)} {E : Nat → Nat → Nat × Nat} (g : Good rs E) : ∀ (f m k a : Nat), rs.length ≤ m + f → k ≤ m → a ∈ lead rs m k → (E m k).1 ≤ a ∧ a ≤ (E m k).2
  | 0, m, k, a, hf, _, ha => by
    rw [lead_out (by omega)] at ha
    cases ha
  | f + 1, m, k, a, hf, hk, ha => by
    rcases Nat.lt_or_ge m rs.length with hm | hm
    · have hl := g.len m hm
      rw [lead_eq rs m k hm (by omega)] at ha
      rcases g.at_ m k hm hk with z | ⟨z, e1, e2⟩ | ⟨n, _, z, e⟩
      · rw [z, if_neg (by decide), if_pos rfl] at ha
        cases ha
      · rw [z, if_pos rfl] at ha
        have hd := of_decide_eq_true (List.mem_filter.mp ha).2
        have l1 := g.lo (m + 1) k (by omega)
        have l2 := g.hi (m + 1) k (by omega)
        rcases hd with y | y
        · have := good_lead g f (m + 1) k a (by omega) (by omega) y
          omega
        · have := good_lead g f (m + 1) (k + 1) a (by omega) (by omega) y
          omega
      · rw [z, if_neg (by omega), if_neg ?_] at ha
        · have := List.mem_singleton.mp ha
          rw [e]
          constructor <;> (dsimp only; omega)
        · omega
    · rw [lead_out hm] at ha
      cases ha
theorem good_rising {rs : List (List Nat)} {E : Nat → Nat → Nat × Nat} (g : Good rs E) : Rising rs := by
  intro m k hm hk _ hn a ha b hb
  have a1 := good_lead g rs.length (m + 1) k a (by omega) (by omega) ha
  have b1 := good_lead g rs.length (m + 1) (k + 1) b (by omega) (by omega) hb
  have l1 := g.lo (m + 1) k (by omega)
  have l2 := g.hi (m + 1) k (by omega)
  have no : ∀ j c, j ≤ m + 1 → sgn rs (m + 1) j ≠ 45 → c ∈ lead rs (m + 1) j → (E (m + 1) j).1 = (E (m + 1) j).2 := fun j c hj n5 hc => by
    rcases g.at_ (m + 1) j hm hj with z | ⟨z, _⟩ | ⟨n, _, z, e⟩
    · have hl := g.len (m + 1) hm
      rw [lead_eq rs (m + 1) j hm (by omega), z, if_neg (by decide), if_pos rfl] at hc
      cases hc
    · exact absurd z n5
    · rw [e]
  rcases hn with z | z
  · have := no k a (by omega) z ha
    omega
  · have := no (k + 1) b (by omega) z hb
    omega
/-- dots put, rows cut off -/
theorem Good.mask {rs rs' : List (List Nat)} {E : Nat → Nat → Nat × Nat} (g : Good rs E) (hl : rs'.length ≤ rs.length) (len : ∀ m, m < rs'.length → (rs'.getD m []).length = m + 1) (h : ∀ m k, m < rs'.length → k ≤ m → sgn rs' m k = 46 ∨ sgn rs' m k = sgn rs m k) : Good rs' E := by
  refine ⟨len, fun m k hm hk => ?_, g.lo, g.hi⟩
  rcases h m k hm hk with z | z
  · exact .inl z
  · rw [z]
    exact g.at_ m k (by omega) hk
/-- classes renumbered, none before another that was not -/
theorem Good.num {rs rs' : List (List Nat)} {E : Nat → Nat → Nat × Nat} (g : Good rs E) (ρ : Nat → Nat) (mono : ∀ a b, a ≤ b → ρ a ≤ ρ b) (most : ∀ n, n ≤ 7 → ρ n ≤ 7) (hl : rs'.length = rs.length) (len : ∀ m, m < rs'.length → (rs'.getD m []).length = m + 1)
    (h : ∀ m k, m < rs'.length → k ≤ m → sgn rs' m k = if sgn rs m k = 45 ∨ sgn rs m k = 46 then sgn rs m k else 48 + ρ (sgn rs m k - 48)) : Good rs' (fun m k => (ρ (E m k).1, ρ (E m k).2)) := by
  refine ⟨len, fun m k hm hk => ?_, fun m k hk => mono _ _ (g.lo m k hk), fun m k hk => mono _ _ (g.hi m k hk)⟩
  have e := h m k hm hk
  rcases g.at_ m k (by omega) hk with z | ⟨z, e1, e2⟩ | ⟨n, h7, z, e3⟩
  · rw [z, if_pos (.inr rfl)] at e
    exact .inl e
  · rw [z, if_pos (.inl rfl)] at e
    refine .inr (.inl ⟨e, ?_, ?_⟩)
    · show ρ _ = ρ _
      rw [e1]
    · show ρ _ = ρ _
      rw [e2]
  · rw [z, if_neg (by omega), Nat.add_sub_cancel_left] at e
    refine .inr (.inr ⟨ρ n, most n h7, e, ?_⟩)
    show (ρ (E m k).1, ρ (E m k).2) = _
    rw [e3]
/-- a row above: from the entries below it, its signs and entries, built from the left -/
structure Above (w : Nat) (lb hb : Nat → Nat) (f : Nat) (sg : List Nat) (en : List (Nat × Nat)) (high : Nat) : Prop where
  l1 : sg.length = f
  l2 : en.length = f
  at_ : ∀ k, k < f → (sg.getD k 0 = 45 ∧ en.getD k (0, 0) = (lb k, hb (k + 1))) ∨ ∃ n, n ≤ 7 ∧ sg.getD k 0 = 48 + n ∧ en.getD k (0, 0) = (n, n) ∧ (k + 1 < w → n ≤ lb (k + 1))
  lo : ∀ k, k + 1 < f → (en.getD k (0, 0)).1 ≤ (en.getD (k + 1) (0, 0)).1
  hi : ∀ k, k + 1 < f → (en.getD k (0, 0)).2 ≤ (en.getD (k + 1) (0, 0)).2
  top : high = if f = 0 then 0 else (en.getD (f - 1) (0, 0)).2
theorem Above.nil (w : Nat) (lb hb : Nat → Nat) : Above w lb hb 0 [] [] 0 := ⟨rfl, rfl, fun k h => absurd h (Nat.not_lt_zero _), fun k h => absurd h (Nat.not_lt_zero _), fun k h => absurd h (Nat.not_lt_zero _), rfl⟩
theorem gA {α : Type} {l : List α} {x d : α} {k : Nat} (h : k < l.length) : (l ++ [x]).getD k d = l.getD k d := by
  rw [List.getD_eq_getElem?_getD, List.getD_eq_getElem?_getD, List.getElem?_append_left h]
theorem gB {α : Type} {l : List α} {x d : α} {k : Nat} (h : k = l.length) : (l ++ [x]).getD k d = x := by
  rw [List.getD_eq_getElem?_getD, h, List.getElem?_concat_length] <;> rfl
theorem Above.le {w : Nat} {lb hb : Nat → Nat} {f : Nat} {sg : List Nat} {en : List (Nat × Nat)} {high : Nat} (a : Above w lb hb f sg en high) (hm : ∀ k, k < w → hb k ≤ hb (k + 1)) (hl : ∀ k, k ≤ w → lb k ≤ hb k) (fw : f ≤ w) (k : Nat) (hk : k < f) : (en.getD k (0, 0)).1 ≤ (en.getD k (0, 0)).2 := by
  rcases a.at_ k hk with ⟨_, e⟩ | ⟨n, _, _, e, _⟩
  · rw [e]
    exact Nat.le_trans (hl k (by omega)) (hm k (by omega))
  · rw [e]
    exact Nat.le_refl _
/-- one more state -/
theorem Above.put {w : Nat} {lb hb : Nat → Nat} {f : Nat} {sg : List Nat} {en : List (Nat × Nat)} {high c : Nat} {e : Nat × Nat} (a : Above w lb hb f sg en high)
    (at_ : (c = 45 ∧ e = (lb f, hb (f + 1))) ∨ ∃ n, n ≤ 7 ∧ c = 48 + n ∧ e = (n, n) ∧ (f + 1 < w → n ≤ lb (f + 1)))
    (lo : 0 < f → (en.getD (f - 1) (0, 0)).1 ≤ e.1) (hi : 0 < f → (en.getD (f - 1) (0, 0)).2 ≤ e.2) : Above w lb hb (f + 1) (sg ++ [c]) (en ++ [e]) e.2 := by
  have l1 := a.l1
  have l2 := a.l2
  refine ⟨by rw [List.length_append, l1] <;> rfl, by rw [List.length_append, l2] <;> rfl, fun k hk => ?_, fun k hk => ?_, fun k hk => ?_, ?_⟩
  · rcases Nat.lt_or_ge k f with z | z
    · rw [gA (by omega), gA (by omega)]
      exact a.at_ k z
    · obtain rfl : k = f := by omega
      rw [gB (by omega), gB (by omega)]
      exact at_
  · rcases Nat.lt_or_ge (k + 1) f with z | z
    · rw [gA (by omega), gA (by omega)]
      exact a.lo k z
    · rw [gA (by omega), gB (by omega)]
      have := lo (by omega)
      rwa [show f - 1 = k by omega] at this
  · rcases Nat.lt_or_ge (k + 1) f with z | z
    · rw [gA (by omega), gA (by omega)]
      exact a.hi k z
    · rw [gA (by omega), gB (by omega)]
      have := hi (by omega)
      rwa [show f - 1 = k by omega] at this
  · rw [if_neg (by omega), gB (by omega)]
theorem Above.stop {w : Nat} {lb hb : Nat → Nat} {f : Nat} {sg : List Nat} {en : List (Nat × Nat)} {high n : Nat} (a : Above w lb hb f sg en high) (hm : ∀ k, k < w → hb k ≤ hb (k + 1)) (hl : ∀ k, k ≤ w → lb k ≤ hb k) (fw : f < w) (h1 : high ≤ n) (h7 : n ≤ 7) (ht : f + 1 < w → n ≤ lb (f + 1)) :
    Above w lb hb (f + 1) (sg ++ [48 + n]) (en ++ [(n, n)]) n := by
  refine a.put (e := (n, n)) (.inr ⟨n, h7, rfl, rfl, ht⟩) (fun h0 => ?_) fun h0 => ?_
  · have l := a.le hm hl (by omega) (f - 1) (by omega)
    have t := a.top
    rw [if_neg (by omega)] at t
    show _ ≤ n
    omega
  · have t := a.top
    rw [if_neg (by omega)] at t
    show _ ≤ n
    omega
theorem Above.dash {w : Nat} {lb hb : Nat → Nat} {f : Nat} {sg : List Nat} {en : List (Nat × Nat)} {high : Nat} (a : Above w lb hb f sg en high) (lm : ∀ k, k < w → lb k ≤ lb (k + 1)) (hm : ∀ k, k < w → hb k ≤ hb (k + 1)) (hl : ∀ k, k ≤ w → lb k ≤ hb k) (fw : f < w) :
    Above w lb hb (f + 1) (sg ++ [45]) (en ++ [(lb f, hb (f + 1))]) (hb (f + 1)) := by
  refine a.put (e := (lb f, hb (f + 1))) (.inl ⟨rfl, rfl⟩) (fun h0 => ?_) fun h0 => ?_
  · show _ ≤ lb f
    rcases a.at_ (f - 1) (by omega) with ⟨_, e⟩ | ⟨n, _, _, e, t⟩
    · rw [e]
      have := lm (f - 1) (by omega)
      rwa [show f - 1 + 1 = f by omega] at this
    · rw [e]
      have := t (by omega)
      rwa [show f - 1 + 1 = f by omega] at this
  · show _ ≤ hb (f + 1)
    have h1 := hm f fw
    rcases a.at_ (f - 1) (by omega) with ⟨_, e⟩ | ⟨n, _, _, e, t⟩
    · rw [e, show f - 1 + 1 = f by omega]
      exact h1
    · rw [e]
      have h2 := t (by omega)
      rw [show f - 1 + 1 = f by omega] at h2
      have h3 := hl f (by omega)
      show n ≤ _
      omega
def eAt (es : List (List (Nat × Nat))) (m k : Nat) : Nat × Nat := (es.getD m []).getD k (0, 0)
/-- the lower rows of a table, the uppermost of w states -/
structure Part (w : Nat) (ts : List (List Nat)) (es : List (List (Nat × Nat))) : Prop where
  n : es.length = ts.length
  l1 : ∀ j, j < ts.length → (ts.getD j []).length = w + j
  l2 : ∀ j, j < ts.length → (es.getD j []).length = w + j
  at_ : ∀ j k, j < ts.length → k < w + j → (sgn ts j k = 45 ∧ (eAt es j k).1 = (eAt es (j + 1) k).1 ∧ (eAt es j k).2 = (eAt es (j + 1) (k + 1)).2) ∨ ∃ n, n ≤ 7 ∧ sgn ts j k = 48 + n ∧ eAt es j k = (n, n)
  lo : ∀ j k, j < ts.length → k + 1 < w + j → (eAt es j k).1 ≤ (eAt es j (k + 1)).1
  hi : ∀ j k, j < ts.length → k + 1 < w + j → (eAt es j k).2 ≤ (eAt es j (k + 1)).2
  le : ∀ j k, j < ts.length → k < w + j → (eAt es j k).1 ≤ (eAt es j k).2
theorem eAt_succ (e : List (Nat × Nat)) (es : List (List (Nat × Nat))) (m k : Nat) : eAt (e :: es) (m + 1) k = eAt es m k := by
  unfold eAt
  rw [List.getD_cons_succ]
/-- a row put above -/
theorem Part.up {w : Nat} {ts : List (List Nat)} {es : List (List (Nat × Nat))} {sg : List Nat} {en : List (Nat × Nat)} {high : Nat} (p : Part (w + 1) ts es) (h0 : 0 < ts.length) (a : Above w (fun k => (eAt es 0 k).1) (fun k => (eAt es 0 k).2) w sg en high) : Part w (sg :: ts) (en :: es) := by
  have lm : ∀ k, k < w → (eAt es 0 k).1 ≤ (eAt es 0 (k + 1)).1 := fun k hk => p.lo 0 k h0 (by omega)
  have hm : ∀ k, k < w → (eAt es 0 k).2 ≤ (eAt es 0 (k + 1)).2 := fun k hk => p.hi 0 k h0 (by omega)
  have hl : ∀ k, k ≤ w → (eAt es 0 k).1 ≤ (eAt es 0 k).2 := fun k hk => p.le 0 k h0 (by omega)
  refine ⟨?_, fun j hj => ?_, fun j hj => ?_, fun j k hj hk => ?_, fun j k hj hk => ?_, fun j k hj hk => ?_, fun j k hj hk => ?_⟩
  · rw [List.length_cons, List.length_cons, p.n]
  · cases j with
    | zero => exact a.l1
    | succ j =>
      rw [List.getD_cons_succ, p.l1 j (Nat.lt_of_succ_lt_succ hj)]
      omega
  · cases j with
    | zero => exact a.l2
    | succ j =>
      rw [List.getD_cons_succ, p.l2 j (Nat.lt_of_succ_lt_succ hj)]
      omega
  · cases j with
    | zero =>
      rw [eAt_succ, eAt_succ]
      rcases a.at_ k hk with ⟨z, e⟩ | ⟨n, h7, z, e, _⟩
      · have e2 : eAt (en :: es) 0 k = ((eAt es 0 k).1, (eAt es 0 (k + 1)).2) := e
        rw [e2]
        exact .inl ⟨z, rfl, rfl⟩
      · exact .inr ⟨n, h7, z, e⟩
    | succ j =>
      rw [eAt_succ, eAt_succ, eAt_succ, sgn_succ]
      exact p.at_ j k (Nat.lt_of_succ_lt_succ hj) (by omega)
  · cases j with
    | zero => exact a.lo k hk
    | succ j =>
      rw [eAt_succ, eAt_succ]
      exact p.lo j k (Nat.lt_of_succ_lt_succ hj) (by omega)
  · cases j with
    | zero => exact a.hi k hk
    | succ j =>
      rw [eAt_succ, eAt_succ]
      exact p.hi j k (Nat.lt_of_succ_lt_succ hj) (by omega)
  · cases j with
    | zero => exact a.le hm hl (Nat.le_refl _) k hk
    | succ j =>
      rw [eAt_succ]
      exact p.le j k (Nat.lt_of_succ_lt_succ hj) (by omega)
/-- the last row -/
theorem Part.base {w : Nat} {sg : List Nat} {en : List (Nat × Nat)} (h1 : sg.length = w) (h2 : en.length = w) (h : ∀ k, k < w → ∃ n, n ≤ 7 ∧ sg.getD k 0 = 48 + n ∧ en.getD k (0, 0) = (n, n)) (mono : ∀ k, k + 1 < w → (en.getD k (0, 0)).1 ≤ (en.getD (k + 1) (0, 0)).1) : Part w [sg] [en] := by
  have z : ∀ j, j < [sg].length → j = 0 := fun j hj => by simp only [List.length_cons, List.length_nil] at hj; omega
  refine ⟨rfl, fun j hj => ?_, fun j hj => ?_, fun j k hj hk => ?_, fun j k hj hk => ?_, fun j k hj hk => ?_, fun j k hj hk => ?_⟩ <;> obtain rfl := z j hj
  · exact h1
  · exact h2
  · exact .inr (h k hk)
  · exact mono k hk
  · obtain ⟨n, _, _, e⟩ := h k (by omega)
    obtain ⟨n', _, _, e'⟩ := h (k + 1) (by omega)
    have m := mono k hk
    rw [e, e'] at m
    show (en.getD k (0, 0)).2 ≤ (en.getD (k + 1) (0, 0)).2
    rw [e, e']
    exact m
  · obtain ⟨n, _, _, e⟩ := h k (by omega)
    show (en.getD k (0, 0)).1 ≤ (en.getD k (0, 0)).2
    rw [e]
    exact Nat.le_refl _
/-- a row with dots where it is not reached -/
def maskR (row b : List Nat) : List Nat := (List.range row.length).map fun k => if ent b k = true then row.getD k 0 else 46
/-- rows behind b as far as they are reached -/
def mask (b : List Nat) : List (List Nat) → List (List Nat)
  | [] => []
  | r :: rs => if 45 ∈ b then maskR r b :: mask (maskR r b) rs else []
theorem maskR_len (row b : List Nat) : (maskR row b).length = row.length := by
  unfold maskR
  rw [List.length_map, List.length_range]
theorem maskR_at {row b : List Nat} {k : Nat} (h : k < row.length) : (maskR row b).getD k 0 = if ent b k = true then row.getD k 0 else 46 := by
  unfold maskR
  rw [List.getD_eq_getElem?_getD, List.getElem?_map, List.getElem?_range h] <;> rfl
theorem maskR_fit {r b : List Nat} (hl : r.length = b.length + 1) (hs : ∀ k, k < r.length → isS (r.getD k 0) = true) : fit (maskR r b) b = true := by
  unfold fit
  rw [maskR_len, decide_eq_true hl, Bool.true_and, List.all_eq_true]
  intro k hk
  have hk := List.mem_range.mp hk
  rw [maskR_at hk]
  cases he : ent b k with
  | true =>
    rw [if_pos rfl, hs k hk] <;> rfl
  | false =>
    rw [if_neg (by decide)]
    decide
end Pln

set_option Elab.async false
set_option linter.all false
set_option maxRecDepth 100000
set_option maxHeartbeats 8000000
/-! PlnB (plain): the drawn rows are a rising plan's -/
namespace Pln
open PySem
/-! ### in a list that ascends, so many items are less -/
theorem less_at : ∀ {l : List Nat} {i x : Nat}, l.Pairwise (· < ·) → l[i]? = some x → (l.filter fun a => decide (a < x)).length = i
  | [], _, _, _, h => by simp at h
  | a :: l, 0, x, p, h => by
    simp only [List.getElem?_cons_zero, Option.some.injEq] at h
    subst h
    rw [List.filter_cons, if_neg (by simp), List.filter_eq_nil_iff.mpr fun b hb => by
      have := (List.pairwise_cons.mp p).1 b hb
      simp
      omega] <;> rfl
  | a :: l, i + 1, x, p, h => by
    rw [List.getElem?_cons_succ] at h
    have hp := List.pairwise_cons.mp p
    have ha := hp.1 x (List.mem_of_getElem? h)
    rw [List.filter_cons, if_pos (decide_eq_true ha), List.length_cons, less_at hp.2 h]
theorem cls_asc (rs : List (List Nat)) : (cls rs).Pairwise (· < ·) := List.pairwise_lt_range.filter _
theorem cls_lt {rs : List (List Nat)} {n : Nat} (h : n ∈ cls rs) : n < 8 ∧ 48 + n ∈ rs.flatten := ⟨List.mem_range.mp (List.mem_filter.mp h).1, of_decide_eq_true (List.mem_filter.mp h).2⟩
theorem cls_of {rs : List (List Nat)} {n : Nat} (h : n < 8) (m : 48 + n ∈ rs.flatten) : n ∈ cls rs := List.mem_filter.mpr ⟨List.mem_range.mpr h, decide_eq_true m⟩
theorem cls_len (rs : List (List Nat)) : (cls rs).length ≤ 8 := by
  have := List.length_filter_le (fun n => decide (48 + n ∈ rs.flatten)) (List.range 8)
  rw [List.length_range] at this
  exact this
/-- how many of the classes are less -/
def rho (ks : List Nat) (n : Nat) : Nat := (ks.filter fun a => decide (a < n)).length
theorem rho_mono (ks : List Nat) {a b : Nat} (h : a ≤ b) : rho ks a ≤ rho ks b := by
  unfold rho
  induction ks with
  | nil => exact Nat.le_refl _
  | cons x ks ih =>
    rw [List.filter_cons, List.filter_cons]
    by_cases h1 : x < a
    · rw [if_pos (decide_eq_true h1), if_pos (decide_eq_true (by omega))]
      exact Nat.succ_le_succ ih
    · rw [if_neg (by simpa using h1)]
      split
      · exact Nat.le_succ_of_le ih
      · exact ih
theorem rho_lt {ks : List Nat} {n : Nat} (p : ks.Pairwise (· < ·)) (h : n ∈ ks) : rho ks n < ks.length ∧ ks[rho ks n]? = some n := by
  obtain ⟨i, hi⟩ := List.getElem?_of_mem h
  have e : rho ks n = i := less_at p hi
  rw [e]
  exact ⟨(List.getElem?_eq_some_iff.mp hi).1, hi⟩
/-- a sign with the classes renumbered -/
def num1 (ks : List Nat) (c : Nat) : Nat := if 48 ≤ c ∧ c ≤ 55 then 48 + rho ks (c - 48) else c
def numR (ks : List Nat) (rs : List (List Nat)) : List (List Nat) := rs.map fun r => r.map (num1 ks)
section
variable {ks : List Nat} (h8 : ∀ n, n ≤ 7 → rho ks n ≤ 7)
include h8
theorem num1_S (c : Nat) : isS (num1 ks c) = isS c := by
  unfold num1
  split
  · rename_i h
    have := h8 (c - 48) (by omega)
    have e1 : isS c = true := by
      unfold isS
      simp
      omega
    rw [e1]
    unfold isS
    simp
    omega
  · rfl
theorem num1_45 (c : Nat) : num1 ks c = 45 ↔ c = 45 := by
  unfold num1
  split <;> omega
theorem num1_46 (c : Nat) : num1 ks c = 46 ↔ c = 46 := by
  unfold num1
  split <;> omega
theorem num_ent (b : List Nat) (k : Nat) : ent (b.map (num1 ks)) k = ent b k := by
  have e : ∀ j, ((b.map (num1 ks))[j]? == some 45) = (b[j]? == some 45) := fun j => by
    rw [List.getElem?_map]
    cases c : b[j]? with
    | none => rfl
    | some x =>
      show (some (num1 ks x) == some 45) = (some x == some 45)
      have := num1_45 h8 x
      rw [Bool.eq_iff_iff]
      simp [this]
  unfold ent
  rw [e, e]
theorem num_fit (r b : List Nat) : fit (r.map (num1 ks)) (b.map (num1 ks)) = fit r b := by
  unfold fit
  rw [List.length_map, List.length_map]
  congr 1
  have key : ∀ k ∈ List.range r.length, ((ent (b.map (num1 ks)) k == isS ((r.map (num1 ks)).getD k 0)) && (isS ((r.map (num1 ks)).getD k 0) || (r.map (num1 ks)).getD k 0 == 46)) = ((ent b k == isS (r.getD k 0)) && (isS (r.getD k 0) || r.getD k 0 == 46)) := fun k hk => by
    have hk := List.mem_range.mp hk
    have e : (r.map (num1 ks)).getD k 0 = num1 ks (r.getD k 0) := by
      rw [List.getD_eq_getElem?_getD, List.getElem?_map, List.getD_eq_getElem?_getD, List.getElem?_eq_getElem hk] <;> rfl
    rw [e, num_ent h8, num1_S h8]
    congr 2
    have := num1_46 h8 (r.getD k 0)
    rw [Bool.eq_iff_iff, beq_iff_eq, beq_iff_eq, this]
  rw [Bool.eq_iff_iff, List.all_eq_true, List.all_eq_true]
  exact ⟨fun h k hk => by rw [← key k hk]; exact h k hk, fun h k hk => by rw [key k hk]; exact h k hk⟩
end
theorem num_getD (ks : List Nat) (rs : List (List Nat)) (m : Nat) : (numR ks rs).getD m [] = (rs.getD m []).map (num1 ks) := by
  unfold numR
  rw [List.getD_eq_getElem?_getD, List.getElem?_map, List.getD_eq_getElem?_getD]
  cases rs[m]? <;> rfl
/-! ### masked rows -/
/-- rows before their classes are numbered -/
structure Pre (ms : List (List Nat)) : Prop where
  two : 2 ≤ ms.length
  one : ms.getD 0 [] = [45]
  fits : ∀ i, i + 1 < ms.length → fit (ms.getD (i + 1) []) (ms.getD i []) = true
  ends : 45 ∉ ms.getD (ms.length - 1) []
  some_ : ∃ c ∈ ms.getD (ms.length - 1) [], c ≠ 46
theorem rho_le (ms : List (List Nat)) : ∀ n, n ≤ 7 → rho (cls ms) n ≤ 7 := fun n hn => by
  by_cases e : rho (cls ms) n ≤ 7
  · exact e
  · exfalso
    have l := cls_len ms
    unfold rho at e
    have l2 := List.length_filter_le (fun a => decide (a < n)) (cls ms)
    have e3 : ((cls ms).filter fun a => decide (a < n)) = cls ms := by
      refine List.Sublist.eq_of_length List.filter_sublist (by omega)
    have hc : (cls ms).length = 8 := by omega
    have e4 : cls ms = List.range 8 := List.Sublist.eq_of_length List.filter_sublist (by rw [hc, List.length_range])
    rw [e4] at e3
    have : (7 : Nat) ∈ (List.range 8).filter fun a => decide (a < n) := by
      rw [e3]
      decide
    have := of_decide_eq_true (List.mem_filter.mp this).2
    omega
theorem Pre.ok {ms : List (List Nat)} (h : Pre ms) (hl : ms.length ≤ 21) (h2 : 2 ≤ (cls ms).length) : Ok (numR (cls ms) ms) := by
  have p := cls_asc ms
  have h8 := rho_le ms
  have len : (numR (cls ms) ms).length = ms.length := List.length_map _
  have mem : ∀ n, n < 8 → (48 + n ∈ (numR (cls ms) ms).flatten ↔ n < (cls ms).length) := fun n hn => by
    constructor
    · intro h
      obtain ⟨r, hr, hc⟩ := List.mem_flatten.mp h
      unfold numR at hr
      obtain ⟨r0, hr0, rfl⟩ := List.mem_map.mp hr
      obtain ⟨c, hc0, e⟩ := List.mem_map.mp hc
      unfold num1 at e
      split at e
      · rename_i h48
        have hk : c - 48 ∈ cls ms := cls_of (by omega) (by
          rw [show 48 + (c - 48) = c by omega]
          exact List.mem_flatten.mpr ⟨r0, hr0, hc0⟩)
        have := (rho_lt p hk).1
        omega
      · omega
    · intro h
      obtain ⟨a, ha⟩ : ∃ a, (cls ms)[n]? = some a := ⟨_, List.getElem?_eq_getElem h⟩
      have hk := List.mem_of_getElem? ha
      obtain ⟨a8, am⟩ := cls_lt hk
      obtain ⟨r0, hr0, hc0⟩ := List.mem_flatten.mp am
      have e : rho (cls ms) a = n := less_at p ha
      refine List.mem_flatten.mpr ⟨r0.map (num1 (cls ms)), List.mem_map.mpr ⟨r0, hr0, rfl⟩, List.mem_map.mpr ⟨48 + a, hc0, ?_⟩⟩
      unfold num1
      rw [if_pos (by omega), show 48 + a - 48 = a by omega, e]
  have ec : cls (numR (cls ms) ms) = List.range (cls ms).length := by
    have l8 := cls_len ms
    have e1 : cls (numR (cls ms) ms) = (List.range 8).filter fun n => decide (n < (cls ms).length) := by
      unfold cls
      refine List.filter_congr fun n hn => ?_
      have := mem n (List.mem_range.mp hn)
      unfold cls at this
      rw [decide_eq_decide]
      exact this
    rw [e1]
    have key : ∀ k j, j ≤ k → (List.range k).filter (fun n => decide (n < j)) = List.range j := fun k => by
      induction k with
      | zero =>
        intro j hj
        obtain rfl : j = 0 := by omega
        rfl
      | succ k ih =>
        intro j hj
        rw [List.range_succ, List.filter_append]
        rcases Nat.lt_or_ge k j with z | z
        · obtain rfl : j = k + 1 := by omega
          have e : (List.range k).filter (fun n => decide (n < k + 1)) = List.range k := List.filter_eq_self.mpr fun n hn => by
            have := List.mem_range.mp hn
            simp
            omega
          rw [e, List.range_succ]
          simp
        · rw [ih j z]
          have e : [k].filter (fun n => decide (n < j)) = [] := by
            simp
            omega
          rw [e, List.append_nil]
    exact key 8 _ l8
  refine ⟨by rw [len]; exact h.two, by rw [len]; exact hl, ?_, fun i hi => ?_, ?_, ?_, ?_, ?_⟩
  · rw [num_getD, h.one] <;> rfl
  · rw [len] at hi
    rw [num_getD, num_getD, num_fit h8]
    exact h.fits i hi
  · rw [len, num_getD]
    intro hm
    obtain ⟨c, hc, e⟩ := List.mem_map.mp hm
    rw [(num1_45 h8 c).mp e] at hc
    exact h.ends hc
  · rw [len, num_getD]
    obtain ⟨c, hc, e⟩ := h.some_
    exact ⟨num1 (cls ms) c, List.mem_map.mpr ⟨c, hc, rfl⟩, fun z => e ((num1_46 h8 c).mp z)⟩
  · rw [ec, List.length_range]
    exact h2
  · rw [ec, List.length_range]
/-- a plan: its rows are right and rise -/
structure Plan (rs : List (List Nat)) : Prop where
  ok : Ok rs
  up : Rising rs
end Pln

set_option Elab.async false
set_option linter.all false
set_option maxRecDepth 100000
set_option maxHeartbeats 8000000
/-! PlnC (plain): curtailed plans -/
namespace Pln
open PySem
theorem ent_iff {b : List Nat} {k : Nat} : ent b k = true ↔ ∃ j, b.getD j 0 = 45 ∧ (k = j ∨ k = j + 1) := by
  have g : ∀ j, b[j]? = some 45 ↔ b.getD j 0 = 45 := fun j => by
    rw [List.getD_eq_getElem?_getD]
    cases b[j]? <;> simp
  unfold ent
  rw [Bool.or_eq_true, Bool.and_eq_true, beq_iff_eq, beq_iff_eq, g, g]
  constructor
  · rintro (⟨h, e⟩ | e)
    · exact ⟨k - 1, e, .inr (by have := of_decide_eq_true h; omega)⟩
    · exact ⟨k, e, .inl rfl⟩
  · rintro ⟨j, e, rfl | rfl⟩
    · exact .inr e
    · exact .inl ⟨decide_eq_true (Nat.succ_pos _), e⟩
theorem Ok.kind {rs : List (List Nat)} (h : Ok rs) {m k : Nat} (hm : m < rs.length) (hk : k ≤ m) : isS (sgn rs m k) = true ∨ sgn rs m k = 46 := by
  cases m with
  | zero =>
    obtain rfl : k = 0 := by omega
    unfold sgn
    rw [h.one]
    exact .inl rfl
  | succ m =>
    have f := h.fits m hm
    have hl := h.len (m + 1) hm
    unfold fit at f
    rw [Bool.and_eq_true, List.all_eq_true] at f
    have g := f.2 k (List.mem_range.mpr (by omega))
    rw [Bool.and_eq_true, Bool.or_eq_true, beq_iff_eq] at g
    rcases g.2 with z | z
    · exact .inl z
    · exact .inr (beq_iff_eq.mp z)
theorem leads_row : ∀ (rs : List (List Nat)) (m : Nat), ((leads rs).getD m []).length = (rs.getD m []).length
  | [], m => by rw [leads] <;> rfl
  | r :: rs, 0 => by
    show (entry r _).length = r.length
    unfold entry
    rw [List.length_map, List.length_range]
  | r :: rs, m + 1 => leads_row rs m
section
variable {rs : List (List Nat)} (h : Ok rs)
include h
end
end Pln

set_option Elab.async false
set_option linter.all false
set_option maxRecDepth 100000
set_option maxHeartbeats 8000000
/-! PlnD (plain): flipped plans -/
namespace Pln
open PySem
section
variable {rs : List (List Nat)} (h : Ok rs)
include h
end
end Pln

set_option Elab.async false
set_option linter.all false
set_option maxRecDepth 100000
set_option maxHeartbeats 8000000
/-! PlnM (plain): rows of stepped classes that stop one or two looks before the end -/
namespace Pln
open PySem
/-- classes that rise by one at most from mark to mark -/
structure Ends (N : Nat) (e : Nat → Nat) : Prop where
  z : e 0 = 0
  up : ∀ k, e k ≤ e (k + 1) ∧ e (k + 1) ≤ e k + 1
  one : 1 ≤ e N
  most : e N ≤ 7
theorem Ends.mono {N : Nat} {e : Nat → Nat} (h : Ends N e) {a b : Nat} (ab : a ≤ b) : e a ≤ e b := by
  induction ab with
  | refl => exact Nat.le_refl _
  | step _ ih => exact Nat.le_trans ih (h.up _).1
theorem Ends.le {N : Nat} {e : Nat → Nat} (h : Ends N e) {k : Nat} (hk : k ≤ N) : e k ≤ 7 := Nat.le_trans (h.mono hk) h.most
theorem Ends.all {N : Nat} {e : Nat → Nat} (h : Ends N e) {n : Nat} (hn : n ≤ e N) : ∃ k, k ≤ N ∧ e k = n := by
  have key : ∀ j, n ≤ e j → ∃ k, k ≤ j ∧ e k = n := fun j => by
    induction j with
    | zero =>
      intro h0
      rw [h.z] at h0
      exact ⟨0, Nat.le_refl _, by rw [h.z]; omega⟩
    | succ j ih =>
      intro hj
      by_cases c : n ≤ e j
      · obtain ⟨k, k1, k2⟩ := ih c
        exact ⟨k, Nat.le_succ_of_le k1, k2⟩
      · exact ⟨j + 1, Nat.le_refl _, by have := (h.up j).2; omega⟩
  exact key N hn
/-- rows with some stops in the last two rows before the end -/
structure Bent (N : Nat) (e : Nat → Nat) (ts : List (List Nat)) : Prop where
  len : ts.length = N + 1
  l : ∀ m, m ≤ N → (ts.getD m []).length = m + 1
  last : ∀ k, k ≤ N → sgn ts N k = 48 + e k
  at_ : ∀ m k, m < N → k ≤ m → sgn ts m k = 45 ∨ (1 ≤ m ∧ ((m + 1 = N ∧ (sgn ts m k = 48 + e k ∨ sgn ts m k = 48 + e (k + 1))) ∨ (m + 2 = N ∧ sgn ts m k = 48 + e (k + 1))))
/-- least and greatest class d rows before the end -/
def bE (N : Nat) (e : Nat → Nat) (ts : List (List Nat)) : Nat → Nat → Nat × Nat
  | 0, k => (e k, e k)
  | d + 1, k => if sgn ts (N - (d + 1)) k = 45 then ((bE N e ts d k).1, (bE N e ts d (k + 1)).2) else (sgn ts (N - (d + 1)) k - 48, sgn ts (N - (d + 1)) k - 48)
theorem bE_one {N : Nat} {e : Nat → Nat} {ts : List (List Nat)} (h : Ends N e) (b : Bent N e ts) (h1 : 1 ≤ N) {k : Nat} (hk : k < N) : e k ≤ (bE N e ts 1 k).1 ∧ (bE N e ts 1 k).1 ≤ e (k + 1) ∧ e k ≤ (bE N e ts 1 k).2 ∧ (bE N e ts 1 k).2 ≤ e (k + 1) := by
  have u := h.up k
  unfold bE
  split
  · exact ⟨Nat.le_refl _, u.1, u.1, Nat.le_refl _⟩
  · rename_i c
    rcases b.at_ (N - 1) k (by omega) (by omega) with z | ⟨_, (⟨_, z | z⟩ | ⟨z, _⟩)⟩
    · exact absurd z c
    · rw [z]; dsimp only; omega
    · rw [z]; dsimp only; omega
    · omega
theorem bE_mono {N : Nat} {e : Nat → Nat} {ts : List (List Nat)} (h : Ends N e) (b : Bent N e ts) : ∀ d k, d ≤ N → k + 1 ≤ N - d → (bE N e ts d k).1 ≤ (bE N e ts d (k + 1)).1 ∧ (bE N e ts d k).2 ≤ (bE N e ts d (k + 1)).2
  | 0, k, _, _ => ⟨(h.up k).1, (h.up k).1⟩
  | 1, k, hd, hk => by
    have a := bE_one h b (by omega) (k := k) (by omega)
    have c := bE_one h b (by omega) (k := k + 1) (by omega)
    exact ⟨Nat.le_trans a.2.1 c.1, Nat.le_trans a.2.2.2 c.2.2.1⟩
  | 2, k, hd, hk => by
    have a0 := bE_one h b (by omega) (k := k) (by omega)
    have a1 := bE_one h b (by omega) (k := k + 1) (by omega)
    have a2 := bE_one h b (by omega) (k := k + 2) (by omega)
    have u1 := h.up (k + 1)
    have lo : ∀ j, j + 1 ≤ N - 2 + 1 → e j ≤ (bE N e ts 2 j).1 ∧ (bE N e ts 2 j).1 ≤ e (j + 1) ∧ e (j + 1) ≤ (bE N e ts 2 j).2 ∧ (bE N e ts 2 j).2 ≤ e (j + 2) := fun j hj => by
      have b0 := bE_one h b (by omega) (k := j) (by omega)
      have b1 := bE_one h b (by omega) (k := j + 1) (by omega)
      have v := h.up j
      have v1 : e (j + 1) ≤ e (j + 2) ∧ _ := h.up (j + 1)
      rw [show bE N e ts 2 j = if sgn ts (N - 2) j = 45 then ((bE N e ts 1 j).1, (bE N e ts 1 (j + 1)).2) else (sgn ts (N - 2) j - 48, sgn ts (N - 2) j - 48) from rfl]
      split
      · exact ⟨b0.1, b0.2.1, b1.2.2.1, b1.2.2.2⟩
      · rename_i c
        rcases b.at_ (N - 2) j (by omega) (by omega) with z | ⟨_, (⟨z, _⟩ | ⟨_, z⟩)⟩
        · exact absurd z c
        · omega
        · rw [z]; dsimp only; omega
    have l0 := lo k (by omega)
    have l1 := lo (k + 1) (by omega)
    exact ⟨Nat.le_trans l0.2.1 l1.1, Nat.le_trans l0.2.2.2 l1.2.2.1⟩
  | d + 3, k, hd, hk => by
    have dash : ∀ j, j ≤ N - (d + 3) → sgn ts (N - (d + 3)) j = 45 := fun j hj => by
      rcases b.at_ (N - (d + 3)) j (by omega) hj with z | ⟨_, (⟨z, _⟩ | ⟨z, _⟩)⟩
      · exact z
      · omega
      · omega
    have e1 : ∀ j, j ≤ N - (d + 3) → bE N e ts (d + 3) j = ((bE N e ts (d + 2) j).1, (bE N e ts (d + 2) (j + 1)).2) := fun j hj => by
      rw [show bE N e ts (d + 3) j = if sgn ts (N - (d + 3)) j = 45 then ((bE N e ts (d + 2) j).1, (bE N e ts (d + 2) (j + 1)).2) else _ from rfl, if_pos (dash j hj)]
    rw [e1 k (by omega), e1 (k + 1) (by omega)]
    exact ⟨(bE_mono h b (d + 2) k (by omega) (by omega)).1, (bE_mono h b (d + 2) (k + 1) (by omega) (by omega)).2⟩
theorem bent_good {N : Nat} {e : Nat → Nat} {ts : List (List Nat)} (h : Ends N e) (b : Bent N e ts) : Good ts fun m k => bE N e ts (N - m) k := by
  refine ⟨fun m hm => b.l m (by have := b.len; omega), fun m k hm hk => ?_, fun m k hk => ?_, fun m k hk => ?_⟩
  · have hl := b.len
    by_cases hN : m < N
    · have ed : N - m = N - (m + 1) + 1 := by omega
      have em : N - (N - (m + 1) + 1) = m := by omega
      have eq : bE N e ts (N - m) k = if sgn ts m k = 45 then ((bE N e ts (N - (m + 1)) k).1, (bE N e ts (N - (m + 1)) (k + 1)).2) else (sgn ts m k - 48, sgn ts m k - 48) := by
        rw [ed, show bE N e ts (N - (m + 1) + 1) k = if sgn ts (N - (N - (m + 1) + 1)) k = 45 then ((bE N e ts (N - (m + 1)) k).1, (bE N e ts (N - (m + 1)) (k + 1)).2) else (sgn ts (N - (N - (m + 1) + 1)) k - 48, sgn ts (N - (N - (m + 1) + 1)) k - 48) from rfl, em]
      rcases b.at_ m k hN hk with z | z
      · rw [if_pos z] at eq
        exact .inr (.inl ⟨z, by rw [eq], by rw [eq]⟩)
      · obtain ⟨n, n7, en⟩ : ∃ n, n ≤ 7 ∧ sgn ts m k = 48 + n := by
          rcases z with ⟨_, (⟨_, z | z⟩ | ⟨_, z⟩)⟩
          · exact ⟨_, h.le (by omega), z⟩
          · exact ⟨_, h.le (by omega), z⟩
          · exact ⟨_, h.le (by omega), z⟩
        rw [if_neg (by omega)] at eq
        exact .inr (.inr ⟨n, n7, en, by rw [eq, en, Nat.add_sub_cancel_left]⟩)
    · obtain rfl : m = N := by omega
      refine .inr (.inr ⟨e k, h.le hk, b.last k hk, ?_⟩)
      rw [Nat.sub_self]
      rfl
  · by_cases hN : m ≤ N
    · exact (bE_mono h b (N - m) k (by omega) (by omega)).1
    · rw [show N - m = 0 by omega]
      exact (h.up k).1
  · by_cases hN : m ≤ N
    · exact (bE_mono h b (N - m) k (by omega) (by omega)).2
    · rw [show N - m = 0 by omega]
      exact (h.up k).1
/-! ### masked rows that are not cut -/
def maskA (b : List Nat) : List (List Nat) → List (List Nat)
  | [] => []
  | r :: rs => maskR r b :: maskA (maskR r b) rs
def maskV (ts : List (List Nat)) : List (List Nat) := [45] :: maskA [45] ts.tail
theorem maskA_len : ∀ (b : List Nat) (rs : List (List Nat)), (maskA b rs).length = rs.length
  | _, [] => rfl
  | b, r :: rs => congrArg (· + 1) (maskA_len _ rs)
theorem maskA_row : ∀ (b : List Nat) (rs : List (List Nat)) (m : Nat), m < rs.length → (maskA b rs).getD m [] = maskR (rs.getD m []) ((b :: maskA b rs).getD m [])
  | _, [], m, h => absurd h (Nat.not_lt_zero _)
  | b, r :: rs, 0, _ => rfl
  | b, r :: rs, m + 1, h => by
    show (maskA (maskR r b) rs).getD m [] = maskR (rs.getD m []) ((maskR r b :: maskA (maskR r b) rs).getD m [])
    exact maskA_row (maskR r b) rs m (Nat.lt_of_succ_lt_succ h)
theorem maskV_len {ts : List (List Nat)} (h : 1 ≤ ts.length) : (maskV ts).length = ts.length := by
  cases ts with
  | nil => cases h
  | cons t ts => exact congrArg (· + 1) (maskA_len _ _)
theorem maskV_row {ts : List (List Nat)} {m : Nat} (h : m + 1 < ts.length) : (maskV ts).getD (m + 1) [] = maskR (ts.getD (m + 1) []) ((maskV ts).getD m []) := by
  cases ts with
  | nil => cases h
  | cons t ts => exact maskA_row [45] ts m (Nat.lt_of_succ_lt_succ h)
theorem maskV_rl {ts : List (List Nat)} (l : ∀ m, m < ts.length → (ts.getD m []).length = m + 1) {m : Nat} (h : m < ts.length) : ((maskV ts).getD m []).length = m + 1 := by
  cases m with
  | zero => rfl
  | succ m => rw [maskV_row h, maskR_len, l _ h]
theorem maskV_sgn {ts : List (List Nat)} (l : ∀ m, m < ts.length → (ts.getD m []).length = m + 1) (one : sgn ts 0 0 = 45) {m k : Nat} (h : m < ts.length) (hk : k ≤ m) : sgn (maskV ts) m k = 46 ∨ sgn (maskV ts) m k = sgn ts m k := by
  cases m with
  | zero =>
    obtain rfl : k = 0 := by omega
    exact .inr one.symm
  | succ m =>
    show ((maskV ts).getD (m + 1) []).getD k 0 = 46 ∨ _
    have e : sgn (maskV ts) (m + 1) k = if ent ((maskV ts).getD m []) k = true then (ts.getD (m + 1) []).getD k 0 else 46 := by
      show ((maskV ts).getD (m + 1) []).getD k 0 = _
      rw [maskV_row h, maskR_at (by rw [l _ h]; omega)]
    rw [show ((maskV ts).getD (m + 1) []).getD k 0 = sgn (maskV ts) (m + 1) k from rfl, e]
    split
    · exact .inr rfl
    · exact .inl rfl
theorem Bent.isS {N : Nat} {e : Nat → Nat} {ts : List (List Nat)} (h : Ends N e) (b : Bent N e ts) {m k : Nat} (hm : m ≤ N) (hk : k ≤ m) : isS (sgn ts m k) = true := by
  have dig : ∀ n, n ≤ 7 → Pln.isS (48 + n) = true := fun n hn => by
    unfold Pln.isS
    simp
    omega
  by_cases hN : m < N
  · rcases b.at_ m k hN hk with z | ⟨_, (⟨_, z | z⟩ | ⟨_, z⟩)⟩
    · rw [z]; decide
    · rw [z]; exact dig _ (h.le (by omega))
    · rw [z]; exact dig _ (h.le (by omega))
    · rw [z]; exact dig _ (h.le (by omega))
  · obtain rfl : m = N := by omega
    rw [b.last k hk]
    exact dig _ (h.le hk)
/-- is_plan says so -/
def isPlan (rs : List (List Nat)) : Bool := decide (2 ≤ (cls rs).length) && ((List.range (cls rs).length).all fun n => decide (48 + n ∈ rs.flatten)) && (rs.getD (rs.length - 1) []).any fun c => decide (c ≠ 46)
theorem filt_range (p : Nat → Bool) : ∀ M : Nat, (∀ n, n < ((List.range M).filter p).length → p n = true) → (List.range M).filter p = List.range ((List.range M).filter p).length
  | 0, _ => rfl
  | M + 1, h => by
    have e : (List.range (M + 1)).filter p = (List.range M).filter p ++ [M].filter p := by rw [List.range_succ, List.filter_append]
    rw [e] at h ⊢
    cases hp : p M with
    | false =>
      have z : [M].filter p = [] := by rw [List.filter_cons, if_neg (by rw [hp]; decide)] <;> rfl
      rw [z, List.append_nil] at h ⊢
      exact filt_range p M h
    | true =>
      have z : [M].filter p = [M] := by rw [List.filter_cons, if_pos hp] <;> rfl
      rw [z, List.length_append, List.length_singleton] at h
      have ih := filt_range p M fun n hn => h n (by omega)
      have hle : ((List.range M).filter p).length ≤ M := by
        have := List.length_filter_le p (List.range M)
        rw [List.length_range] at this
        exact this
      rw [z, List.length_append, List.length_singleton]
      by_cases c : ((List.range M).filter p).length = M
      · rw [ih, List.length_range, c, List.range_succ]
      · have m1 : ((List.range M).filter p).length ∈ (List.range M).filter p := List.mem_filter.mpr ⟨List.mem_range.mpr (by omega), h _ (by omega)⟩
        rw [ih, List.length_range] at m1
        exact absurd (List.mem_range.mp m1) (Nat.lt_irrefl _)
theorem cls_range {rs : List (List Nat)} (h : ∀ n, n < (cls rs).length → 48 + n ∈ rs.flatten) : cls rs = List.range (cls rs).length :=
  filt_range (fun n => decide (48 + n ∈ rs.flatten)) 8 fun n hn => decide_eq_true (h n hn)
theorem bent_plan {N : Nat} {e : Nat → Nat} {ts : List (List Nat)} (h : Ends N e) (b : Bent N e ts) (h1 : 1 ≤ N) (h20 : N ≤ 20) (ip : isPlan (maskV ts) = true) : Plan (maskV ts) := by
  have hl := b.len
  have l : ∀ m, m < ts.length → (ts.getD m []).length = m + 1 := fun m hm => b.l m (by omega)
  have one : sgn ts 0 0 = 45 := by
    rcases b.at_ 0 0 (by omega) (Nat.le_refl _) with z | ⟨z, _⟩
    · exact z
    · omega
  have ml := maskV_len (ts := ts) (by omega)
  obtain ⟨ip, i3⟩ := Bool.and_eq_true_iff.mp ip
  obtain ⟨i1, i2⟩ := Bool.and_eq_true_iff.mp ip
  have fits : ∀ i, i + 1 < (maskV ts).length → fit ((maskV ts).getD (i + 1) []) ((maskV ts).getD i []) = true := fun i hi => by
    rw [maskV_row (by omega)]
    refine maskR_fit ?_ fun k hk => ?_
    · rw [l _ (by omega), maskV_rl l (by omega)]
    · rw [l _ (by omega)] at hk
      exact b.isS h (by omega) (by omega)
  have g : Good (maskV ts) fun m k => bE N e ts (N - m) k := (bent_good h b).mask (by omega) (fun m hm => maskV_rl l (by omega)) fun m k hm hk => maskV_sgn l one (by omega) hk
  refine ⟨⟨by omega, by omega, rfl, fits, fun hc => ?_, ?_, of_decide_eq_true i1, ?_⟩, good_rising g⟩
  · have hc : 45 ∈ (maskV ts).getD N [] := by
      rw [show (maskV ts).length - 1 = N by omega] at hc
      exact hc
    obtain ⟨k, hk, ek⟩ := List.getElem_of_mem hc
    have ll := maskV_rl l (m := N) (by omega)
    have es : sgn (maskV ts) N k = 45 := by
      show ((maskV ts).getD N []).getD k 0 = 45
      rw [List.getD_eq_getElem?_getD, List.getElem?_eq_getElem hk, ek] <;> rfl
    rcases maskV_sgn l one (m := N) (k := k) (by omega) (by omega) with z | z
    · rw [es] at z; cases z
    · rw [es, b.last k (by omega)] at z
      omega
  · obtain ⟨c, hc, h2⟩ := List.any_eq_true.mp i3
    exact ⟨c, hc, of_decide_eq_true h2⟩
  · exact cls_range fun n hn => of_decide_eq_true (List.all_eq_true.mp i2 n (List.mem_range.mpr hn))
/-! ### the plain rows -/
def plainR (N : Nat) (e : Nat → Nat) : List (List Nat) := ((List.range N).map fun m => List.replicate (m + 1) 45) ++ [(List.range (N + 1)).map fun k => 48 + e k]
theorem plain_len {N : Nat} {e : Nat → Nat} : (plainR N e).length = N + 1 := by
  unfold plainR
  rw [List.length_append, List.length_map, List.length_range] <;> rfl
theorem plain_row {N : Nat} {e : Nat → Nat} {m : Nat} (h : m < N) : (plainR N e).getD m [] = List.replicate (m + 1) 45 := by
  unfold plainR
  rw [List.getD_eq_getElem?_getD, List.getElem?_append_left (by rw [List.length_map, List.length_range]; exact h), List.getElem?_map, List.getElem?_range h] <;> rfl
theorem plain_last {N : Nat} {e : Nat → Nat} : (plainR N e).getD N [] = (List.range (N + 1)).map fun k => 48 + e k := by
  unfold plainR
  rw [List.getD_eq_getElem?_getD, List.getElem?_append_right (by rw [List.length_map, List.length_range]; exact Nat.le_refl _), List.length_map, List.length_range, Nat.sub_self] <;> rfl
theorem plain_bent {N : Nat} {e : Nat → Nat} : Bent N e (plainR N e) := by
  refine ⟨plain_len, fun m hm => ?_, fun k hk => ?_, fun m k hm hk => .inl ?_⟩
  · by_cases h : m < N
    · rw [plain_row h, List.length_replicate]
    · obtain rfl : m = N := by omega
      rw [plain_last, List.length_map, List.length_range]
  · show ((plainR N e).getD N []).getD k 0 = _
    rw [plain_last, List.getD_eq_getElem?_getD, List.getElem?_map, List.getElem?_range (by omega)] <;> rfl
  · show ((plainR N e).getD m []).getD k 0 = _
    rw [plain_row hm, List.getD_eq_getElem?_getD, List.getElem?_replicate, if_pos (by omega)] <;> rfl
theorem ent_rep {m k : Nat} (hk : k ≤ m + 1) : ent (List.replicate (m + 1) 45) k = true := by
  refine ent_iff.mpr ?_
  have g : ∀ j, j ≤ m → (List.replicate (m + 1) 45).getD j 0 = 45 := fun j hj => by
    rw [List.getD_eq_getElem?_getD, List.getElem?_replicate, if_pos (by omega)] <;> rfl
  by_cases h : k ≤ m
  · exact ⟨k, g k h, .inl rfl⟩
  · exact ⟨m, g m (Nat.le_refl _), .inr (by omega)⟩
theorem list_ext_getD {a b : List Nat} (h1 : a.length = b.length) (h : ∀ k, k < a.length → a.getD k 0 = b.getD k 0) : a = b := by
  refine List.ext_getElem h1 fun k k1 k2 => ?_
  have := h k k1
  rw [List.getD_eq_getElem?_getD, List.getElem?_eq_getElem k1, List.getD_eq_getElem?_getD, List.getElem?_eq_getElem k2] at this
  exact this
theorem plain_mask {N : Nat} {e : Nat → Nat} (h1 : 1 ≤ N) : maskV (plainR N e) = plainR N e := by
  have ml := maskV_len (ts := plainR N e) (by rw [plain_len]; omega)
  have row : ∀ m, m ≤ N → (maskV (plainR N e)).getD m [] = (plainR N e).getD m [] := fun m => by
    induction m with
    | zero =>
      intro _
      rw [plain_row (by omega)]
      rfl
    | succ m ih =>
      intro hm
      have b := plain_bent (N := N) (e := e)
      rw [maskV_row (by rw [plain_len]; omega), ih (by omega), plain_row (m := m) (by omega)]
      refine list_ext_getD (maskR_len _ _) fun k hk => ?_
      rw [maskR_len] at hk
      rw [maskR_at hk, if_pos (ent_rep (by rw [b.l _ hm] at hk; omega))]
  refine List.ext_getElem ml fun m m1 m2 => ?_
  have := row m (by rw [plain_len] at m2; omega)
  rw [List.getD_eq_getElem?_getD, List.getElem?_eq_getElem m1, List.getD_eq_getElem?_getD, List.getElem?_eq_getElem m2] at this
  exact this
theorem plain_mem {N : Nat} {e : Nat → Nat} {c : Nat} : c ∈ (plainR N e).flatten ↔ (c = 45 ∧ 1 ≤ N) ∨ ∃ k, k ≤ N ∧ c = 48 + e k := by
  unfold plainR
  rw [List.flatten_append, List.mem_append, List.mem_flatten, List.mem_flatten]
  constructor
  · rintro (⟨r, hr, hc⟩ | ⟨r, hr, hc⟩)
    · obtain ⟨m, hm, rfl⟩ := List.mem_map.mp hr
      have := List.mem_range.mp hm
      exact .inl ⟨(List.mem_replicate.mp hc).2, by omega⟩
    · rw [List.mem_singleton.mp hr] at hc
      obtain ⟨k, hk, rfl⟩ := List.mem_map.mp hc
      exact .inr ⟨k, by have := List.mem_range.mp hk; omega, rfl⟩
  · rintro (⟨rfl, h⟩ | ⟨k, hk, rfl⟩)
    · exact .inl ⟨_, List.mem_map.mpr ⟨0, List.mem_range.mpr h, rfl⟩, List.mem_replicate.mpr ⟨by omega, rfl⟩⟩
    · exact .inr ⟨_, .head _, List.mem_map.mpr ⟨k, List.mem_range.mpr (by omega), rfl⟩⟩
theorem plain_cls {N : Nat} {e : Nat → Nat} (h : Ends N e) : cls (plainR N e) = List.range (e N + 1) := by
  have key : ∀ n, n ∈ cls (plainR N e) ↔ n < e N + 1 := fun n => by
    constructor
    · intro hn
      obtain ⟨_, h2⟩ := cls_lt hn
      rcases plain_mem.mp h2 with ⟨z, _⟩ | ⟨k, hk, z⟩
      · omega
      · have := h.mono hk
        omega
    · intro hn
      obtain ⟨k, hk, ek⟩ := h.all (n := n) (by omega)
      exact cls_of (by have := h.most; omega) (plain_mem.mpr (.inr ⟨k, hk, by rw [ek]⟩))
  have p := cls_asc (plainR N e)
  have q : (List.range (e N + 1)).Pairwise (· < ·) := List.pairwise_lt_range
  have nd1 : (cls (plainR N e)).Nodup := p.imp fun h => Nat.ne_of_lt h
  have nd2 : (List.range (e N + 1)).Nodup := List.nodup_range
  have perm : (cls (plainR N e)).Perm (List.range (e N + 1)) := (List.perm_ext_iff_of_nodup nd1 nd2).mpr fun n => by rw [key, List.mem_range]
  exact perm.eq_of_pairwise (fun a b _ _ h1 h2 => absurd (Nat.lt_trans h1 h2) (Nat.lt_irrefl _)) p q
theorem plain_is {N : Nat} {e : Nat → Nat} (h : Ends N e) : isPlan (plainR N e) = true := by
  unfold isPlan
  rw [plain_cls h, List.length_range]
  refine Bool.and_eq_true_iff.mpr ⟨Bool.and_eq_true_iff.mpr ⟨decide_eq_true (by have := h.one; omega), List.all_eq_true.mpr fun n hn => decide_eq_true ?_⟩, List.any_eq_true.mpr ⟨48, ?_, by decide⟩⟩
  · obtain ⟨k, hk, ek⟩ := h.all (n := n) (by have := List.mem_range.mp hn; omega)
    exact plain_mem.mpr (.inr ⟨k, hk, by rw [ek]⟩)
  · rw [plain_len, Nat.add_sub_cancel, plain_last]
    exact List.mem_map.mpr ⟨0, List.mem_range.mpr (Nat.succ_pos _), by rw [h.z]⟩
theorem plain_plan {N : Nat} {e : Nat → Nat} (h : Ends N e) (h1 : 1 ≤ N) (h20 : N ≤ 20) : Plan (plainR N e) := by
  have := bent_plan h plain_bent h1 h20 (by rw [plain_mask h1]; exact plain_is h)
  rw [plain_mask h1] at this
  exact this
end Pln

set_option Elab.async false
set_option linter.all false
set_option maxRecDepth 100000
set_option maxHeartbeats 8000000
/-! PlnN (plain): drawn rows whose dashes stand side by side: low classes stop on the left, high ones on the right -/
namespace Pln
open PySem
/-! ### classes renumbered by any rising function -/
def numF (ρ : Nat → Nat) (c : Nat) : Nat := if 48 ≤ c ∧ c ≤ 55 then 48 + ρ (c - 48) else c
def mapF (ρ : Nat → Nat) (rs : List (List Nat)) : List (List Nat) := rs.map fun r => r.map (numF ρ)
theorem mapF_getD (ρ : Nat → Nat) (rs : List (List Nat)) (m : Nat) : (mapF ρ rs).getD m [] = (rs.getD m []).map (numF ρ) := by
  unfold mapF
  rw [List.getD_eq_getElem?_getD, List.getElem?_map, List.getD_eq_getElem?_getD]
  cases rs[m]? <;> rfl
theorem filter_below : ∀ k j, j ≤ k → (List.range k).filter (fun n => decide (n < j)) = List.range j := fun k => by
  induction k with
  | zero =>
    intro j hj
    obtain rfl : j = 0 := by omega
    rfl
  | succ k ih =>
    intro j hj
    rw [List.range_succ, List.filter_append]
    rcases Nat.lt_or_ge k j with z | z
    · obtain rfl : j = k + 1 := by omega
      have e : (List.range k).filter (fun n => decide (n < k + 1)) = List.range k := List.filter_eq_self.mpr fun n hn => by
        have := List.mem_range.mp hn
        simp
        omega
      rw [e, List.range_succ]
      simp
    · rw [ih j z]
      have e : [k].filter (fun n => decide (n < j)) = [] := by
        simp
        omega
      rw [e, List.append_nil]
theorem cls_mapF {ρ : Nat → Nat} {rs : List (List Nat)} {L : Nat} (hL : L ≤ 8) (into : ∀ a ∈ cls rs, ρ a < L) (onto : ∀ n, n < L → ∃ a ∈ cls rs, ρ a = n) (no : ∀ c ∈ rs.flatten, c < 48 ∨ (48 ≤ c ∧ c ≤ 55)) : cls (mapF ρ rs) = List.range L := by
  have mem : ∀ n, n < 8 → (48 + n ∈ (mapF ρ rs).flatten ↔ n < L) := fun n hn => by
    constructor
    · intro h
      obtain ⟨r, hr, hc⟩ := List.mem_flatten.mp h
      obtain ⟨r0, hr0, rfl⟩ := List.mem_map.mp hr
      obtain ⟨c, hc0, e⟩ := List.mem_map.mp hc
      have mf : c ∈ rs.flatten := List.mem_flatten.mpr ⟨r0, hr0, hc0⟩
      unfold numF at e
      split at e
      · rename_i h48
        have := into (c - 48) (cls_of (by omega) (by rw [show 48 + (c - 48) = c by omega]; exact mf))
        omega
      · have := no c mf
        omega
    · intro h
      obtain ⟨a, ha, e⟩ := onto n h
      obtain ⟨a8, am⟩ := cls_lt ha
      obtain ⟨r0, hr0, hc0⟩ := List.mem_flatten.mp am
      refine List.mem_flatten.mpr ⟨r0.map (numF ρ), List.mem_map.mpr ⟨r0, hr0, rfl⟩, List.mem_map.mpr ⟨48 + a, hc0, ?_⟩⟩
      unfold numF
      rw [if_pos (by omega), show 48 + a - 48 = a by omega, e]
  have e1 : cls (mapF ρ rs) = (List.range 8).filter fun n => decide (n < L) := by
    unfold cls
    refine List.filter_congr fun n hn => ?_
    have := mem n (List.mem_range.mp hn)
    rw [decide_eq_decide]
    exact this
  rw [e1]
  exact filter_below 8 L hL
/-! ### rows with a block of dashes -/
def rowB (f a d b z lo hi : Nat) : List Nat := List.replicate f 46 ++ (List.replicate a (48 + lo) ++ List.replicate d 45 ++ List.replicate b (48 + hi)) ++ List.replicate z 46
theorem rowB_len {f a d b z lo hi : Nat} : (rowB f a d b z lo hi).length = f + a + d + b + z := by
  unfold rowB
  simp only [List.length_append, List.length_replicate]
  omega
theorem getD_app {l r : List Nat} {k : Nat} : (l ++ r).getD k 0 = if k < l.length then l.getD k 0 else r.getD (k - l.length) 0 := by
  rw [List.getD_eq_getElem?_getD]
  split
  · rename_i h
    rw [List.getElem?_append_left h, List.getD_eq_getElem?_getD]
  · rename_i h
    rw [List.getElem?_append_right (by omega), List.getD_eq_getElem?_getD]
theorem getD_rep {n c k : Nat} (h : k < n) : (List.replicate n c).getD k 0 = c := by
  rw [List.getD_eq_getElem?_getD, List.getElem?_replicate, if_pos h] <;> rfl
theorem rowB_at {f a d b z lo hi k : Nat} (h : k < f + a + d + b + z) : (rowB f a d b z lo hi).getD k 0 = if k < f then 46 else if k < f + a then 48 + lo else if k < f + a + d then 45 else if k < f + a + d + b then 48 + hi else 46 := by
  unfold rowB
  simp only [getD_app, List.length_append, List.length_replicate]
  by_cases h1 : k < f
  · rw [if_pos (by omega), if_pos h1, if_pos h1, getD_rep h1]
  · rw [if_neg h1]
    by_cases h2 : k < f + a
    · rw [if_pos (by omega), if_neg h1, if_pos (by omega), if_pos (by omega), if_pos h2, getD_rep (by omega)]
    · rw [if_neg h2]
      by_cases h3 : k < f + a + d
      · rw [if_pos (by omega), if_neg h1, if_pos (by omega), if_neg (by omega), if_pos h3, getD_rep (by omega)]
      · rw [if_neg h3]
        by_cases h4 : k < f + a + d + b
        · rw [if_pos (by omega), if_neg h1, if_neg (by omega), if_pos h4, getD_rep (by omega)]
        · rw [if_neg (by omega), if_neg h4, if_neg h1, getD_rep (by omega)]
structure RB where
  f : Nat
  a : Nat
  d : Nat
  b : Nat
  lo : Nat
  hi : Nat
def rb0 : RB := ⟨0, 0, 1, 0, 0, 7⟩
def RB.row (w : RB) (i : Nat) : List Nat := rowB w.f w.a w.d w.b (i + 1 - (w.f + w.a + w.d + w.b)) w.lo w.hi
/-- a row may follow another -/
structure Nx (u v : RB) : Prop where
  f : v.f = u.f + u.a
  w : v.a + v.d + v.b = u.d + 1
  d : 1 ≤ v.d
  lo : u.lo ≤ v.lo
  hi : v.hi ≤ u.hi
  lh : v.lo ≤ v.hi
/-- rows above the last one -/
structure Up (rs : List (List Nat)) (ws : List RB) : Prop where
  n1 : 1 ≤ ws.length
  len : rs.length = ws.length
  row : ∀ i, i < ws.length → rs.getD i [] = (ws.getD i rb0).row i
  zero : (ws.getD 0 rb0).f = 0 ∧ (ws.getD 0 rb0).a = 0 ∧ (ws.getD 0 rb0).d = 1 ∧ (ws.getD 0 rb0).b = 0
  nxt : ∀ i, i + 1 < ws.length → Nx (ws.getD i rb0) (ws.getD (i + 1) rb0)
  fit_ : ∀ i, i < ws.length → (ws.getD i rb0).f + (ws.getD i rb0).a + (ws.getD i rb0).d + (ws.getD i rb0).b ≤ i + 1
  one : ∀ i, i < ws.length → 1 ≤ (ws.getD i rb0).d ∧ (ws.getD i rb0).lo ≤ (ws.getD i rb0).hi ∧ (ws.getD i rb0).hi ≤ 7
/-- the last row -/
structure Lst (w : RB) (N : Nat) (cs : List Nat) (r : List Nat) : Prop where
  row : r = List.replicate (w.f + w.a) 46 ++ cs.map (48 + ·) ++ List.replicate (N - (w.f + w.a + w.d)) 46
  cl : cs.length = w.d + 1
  asc : cs.Pairwise (· ≤ ·)
  bnd : ∀ c ∈ cs, w.lo ≤ c ∧ c ≤ w.hi
theorem getD_concat {α : Type} {l : List α} {x d : α} {k : Nat} : (l ++ [x]).getD k d = if k < l.length then l.getD k d else if k = l.length then x else d := by
  rw [List.getD_eq_getElem?_getD]
  split
  · rename_i h
    rw [List.getElem?_append_left h, List.getD_eq_getElem?_getD]
  · rename_i h
    rw [List.getElem?_append_right (by omega)]
    split
    · rename_i e
      rw [e, Nat.sub_self] <;> rfl
    · rw [List.getElem?_eq_none (by simp; omega)] <;> rfl
theorem up_one : Up [[45]] [rb0] := by
  refine ⟨Nat.le_refl _, rfl, fun i hi => ?_, ⟨rfl, rfl, rfl, rfl⟩, fun i hi => ?_, fun i hi => ?_, fun i hi => ?_⟩
  · obtain rfl : i = 0 := by simp at hi; omega
    rfl
  · simp at hi
  · obtain rfl : i = 0 := by simp at hi; omega
    decide
  · obtain rfl : i = 0 := by simp at hi; omega
    decide
theorem Up.add {rs : List (List Nat)} {ws : List RB} (h : Up rs ws) {v : RB} (n : Nx (ws.getD (ws.length - 1) rb0) v) (h7 : v.hi ≤ 7) : Up (rs ++ [v.row ws.length]) (ws ++ [v]) := by
  have n1 := h.n1
  have hl := h.len
  have ff := h.fit_ (ws.length - 1) (by omega)
  have n2 := n.f
  have n3 := n.w
  refine ⟨by rw [List.length_append]; omega, by rw [List.length_append, List.length_append, hl] <;> rfl, fun i hi => ?_, ?_, fun i hi => ?_, fun i hi => ?_, fun i hi => ?_⟩
  · rw [List.length_append] at hi
    have hi : i < ws.length + 1 := hi
    rw [getD_concat, getD_concat, hl]
    split
    · rename_i c
      exact h.row i c
    · rw [if_pos (by omega), if_pos (by omega), show i = ws.length by omega]
  · rw [getD_concat, if_pos (by omega)]
    exact h.zero
  · rw [List.length_append] at hi
    have hi : i + 1 < ws.length + 1 := hi
    rw [getD_concat, getD_concat, if_pos (by omega)]
    split
    · rename_i c
      exact h.nxt i c
    · rw [if_pos (by omega)]
      rw [show i = ws.length - 1 by omega]
      exact n
  · rw [List.length_append] at hi
    have hi : i < ws.length + 1 := hi
    rw [getD_concat]
    split
    · rename_i c
      exact h.fit_ i c
    · rw [if_pos (by omega)]
      omega
  · rw [List.length_append] at hi
    have hi : i < ws.length + 1 := hi
    rw [getD_concat]
    split
    · rename_i c
      exact h.one i c
    · rw [if_pos (by omega)]
      exact ⟨n.d, n.lh, h7⟩
/-! ### all rows -/
structure Sh (rs : List (List Nat)) (ws : List RB) (cs : List Nat) : Prop where
  n1 : 1 ≤ ws.length
  len : rs.length = ws.length + 1
  row : ∀ i, i < ws.length → rs.getD i [] = (ws.getD i rb0).row i
  zero : (ws.getD 0 rb0).f = 0 ∧ (ws.getD 0 rb0).a = 0 ∧ (ws.getD 0 rb0).d = 1 ∧ (ws.getD 0 rb0).b = 0
  nxt : ∀ i, i + 1 < ws.length → Nx (ws.getD i rb0) (ws.getD (i + 1) rb0)
  fit_ : ∀ i, i < ws.length → (ws.getD i rb0).f + (ws.getD i rb0).a + (ws.getD i rb0).d + (ws.getD i rb0).b ≤ i + 1
  one : ∀ i, i < ws.length → 1 ≤ (ws.getD i rb0).d ∧ (ws.getD i rb0).lo ≤ (ws.getD i rb0).hi ∧ (ws.getD i rb0).hi ≤ 7
  last : Lst (ws.getD (ws.length - 1) rb0) ws.length cs (rs.getD ws.length [])
theorem Up.sh {rs : List (List Nat)} {ws : List RB} (h : Up rs ws) {cs r : List Nat} (l : Lst (ws.getD (ws.length - 1) rb0) ws.length cs r) : Sh (rs ++ [r]) ws cs := by
  have hl := h.len
  refine ⟨h.n1, by rw [List.length_append, hl] <;> rfl, fun i hi => ?_, h.zero, h.nxt, h.fit_, h.one, ?_⟩
  · rw [getD_concat, if_pos (by omega)]
    exact h.row i hi
  · rw [getD_concat, if_neg (by omega), if_pos hl.symm]
    exact l
theorem map_rep {n c : Nat} {g : Nat → Nat} : (List.replicate n c).map g = List.replicate n (g c) := List.map_replicate
theorem rowB_num {ρ : Nat → Nat} {f a d b z lo hi : Nat} (h1 : lo ≤ 7) (h2 : hi ≤ 7) : (rowB f a d b z lo hi).map (numF ρ) = rowB f a d b z (ρ lo) (ρ hi) := by
  have e1 : numF ρ 46 = 46 := rfl
  have e2 : numF ρ 45 = 45 := rfl
  have e3 : ∀ n, n ≤ 7 → numF ρ (48 + n) = 48 + ρ n := fun n hn => by
    unfold numF
    rw [if_pos (by omega), Nat.add_sub_cancel_left]
  unfold rowB
  simp only [List.map_append, map_rep, e1, e2, e3 lo h1, e3 hi h2]
def RB.num (ρ : Nat → Nat) (w : RB) : RB := ⟨w.f, w.a, w.d, w.b, ρ w.lo, ρ w.hi⟩
theorem getD_map_rb {ρ : Nat → Nat} {ws : List RB} {i : Nat} (h : i < ws.length) : (ws.map (RB.num ρ)).getD i rb0 = (ws.getD i rb0).num ρ := by
  rw [List.getD_eq_getElem?_getD, List.getElem?_map, List.getD_eq_getElem?_getD, List.getElem?_eq_getElem h] <;> rfl
theorem Sh.num {rs : List (List Nat)} {ws : List RB} {cs : List Nat} (h : Sh rs ws cs) {ρ : Nat → Nat} (mono : ∀ a b, a ≤ b → ρ a ≤ ρ b) (h7 : ∀ n, n ≤ 7 → ρ n ≤ 7) : Sh (mapF ρ rs) (ws.map (RB.num ρ)) (cs.map ρ) := by
  have wl : (ws.map (RB.num ρ)).length = ws.length := List.length_map _
  have n1 := h.n1
  refine ⟨by rw [wl]; exact h.n1, by rw [wl]; exact (List.length_map _).trans h.len, fun i hi => ?_, ?_, fun i hi => ?_, fun i hi => ?_, fun i hi => ?_, ?_⟩
  · rw [wl] at hi
    rw [mapF_getD, h.row i hi, getD_map_rb hi]
    have := h.one i hi
    exact rowB_num (by omega) (by omega)
  · rw [getD_map_rb n1]
    exact h.zero
  · rw [wl] at hi
    rw [getD_map_rb (by omega), getD_map_rb hi]
    have n := h.nxt i hi
    exact ⟨n.f, n.w, n.d, mono _ _ n.lo, mono _ _ n.hi, mono _ _ n.lh⟩
  · rw [wl] at hi
    rw [getD_map_rb hi]
    exact h.fit_ i hi
  · rw [wl] at hi
    rw [getD_map_rb hi]
    have o := h.one i hi
    exact ⟨o.1, mono _ _ o.2.1, h7 _ o.2.2⟩
  · rw [wl, getD_map_rb (by omega), mapF_getD]
    have l := h.last
    have o := h.one (ws.length - 1) (by omega)
    refine ⟨?_, by rw [List.length_map]; exact l.cl, ?_, fun c hc => ?_⟩
    · have e3 : ∀ n, n ≤ 7 → numF ρ (48 + n) = 48 + ρ n := fun n hn => by
        unfold numF
        rw [if_pos (by omega), Nat.add_sub_cancel_left]
      rw [l.row, List.map_append, List.map_append, map_rep, map_rep, List.map_map, List.map_map]
      have e4 : cs.map (numF ρ ∘ (48 + ·)) = cs.map ((48 + ·) ∘ ρ) := List.map_congr_left fun c hc => e3 c (by have := l.bnd c hc; omega)
      rw [e4] <;> rfl
    · rw [List.pairwise_map]
      exact l.asc.imp fun z => mono _ _ z
    · obtain ⟨x, hx, rfl⟩ := List.mem_map.mp hc
      have := l.bnd x hx
      exact ⟨mono _ _ this.1, mono _ _ this.2⟩
section
variable {rs : List (List Nat)} {ws : List RB} {cs : List Nat} (h : Sh rs ws cs)
include h
theorem Sh.rl {i : Nat} (hi : i < rs.length) : (rs.getD i []).length = i + 1 := by
  have hl := h.len
  have n1 := h.n1
  rcases Nat.lt_or_ge i ws.length with c | c
  · rw [h.row i c]
    unfold RB.row
    rw [rowB_len]
    have := h.fit_ i c
    omega
  · rw [show i = ws.length by omega, h.last.row]
    have := h.fit_ (ws.length - 1) (by omega)
    have := h.last.cl
    simp only [List.length_append, List.length_replicate, List.length_map]
    omega
theorem Sh.sg {i k : Nat} (hi : i < ws.length) (hk : k ≤ i) : sgn rs i k = if k < (ws.getD i rb0).f then 46 else if k < (ws.getD i rb0).f + (ws.getD i rb0).a then 48 + (ws.getD i rb0).lo else if k < (ws.getD i rb0).f + (ws.getD i rb0).a + (ws.getD i rb0).d then 45 else if k < (ws.getD i rb0).f + (ws.getD i rb0).a + (ws.getD i rb0).d + (ws.getD i rb0).b then 48 + (ws.getD i rb0).hi else 46 := by
  unfold sgn
  rw [h.row i hi]
  have := h.fit_ i hi
  exact rowB_at (by omega)
theorem Sh.sgL {k : Nat} (hk : k ≤ ws.length) : sgn rs ws.length k = if k < (ws.getD (ws.length - 1) rb0).f + (ws.getD (ws.length - 1) rb0).a then 46 else if k < (ws.getD (ws.length - 1) rb0).f + (ws.getD (ws.length - 1) rb0).a + cs.length then 48 + cs.getD (k - ((ws.getD (ws.length - 1) rb0).f + (ws.getD (ws.length - 1) rb0).a)) 0 else 46 := by
  have l := h.last
  have n1 := h.n1
  have ff := h.fit_ (ws.length - 1) (by omega)
  have cl := l.cl
  unfold sgn
  rw [l.row]
  generalize ws.getD (ws.length - 1) rb0 = w at *
  simp only [getD_app, List.length_append, List.length_replicate, List.length_map]
  by_cases h1 : k < w.f + w.a
  · rw [if_pos (by omega), if_pos h1, if_pos h1, getD_rep h1]
  · rw [if_neg h1]
    by_cases h2 : k < w.f + w.a + cs.length
    · rw [if_pos h2, if_neg h1, if_pos h2, List.getD_eq_getElem?_getD, List.getElem?_map, List.getElem?_eq_getElem (by omega), List.getD_eq_getElem?_getD, List.getElem?_eq_getElem (by omega)] <;> rfl
    · rw [if_neg h2, if_neg h2, if_neg h1, getD_rep (by omega)]
/-- bounds of the classes from a row on -/
theorem Sh.at_ {m k : Nat} (hm : m < rs.length) (hk : k ≤ m) : sgn rs m k = 46 ∨ (sgn rs m k = 45 ∧ m < ws.length) ∨ ∃ n, sgn rs m k = 48 + n ∧ (ws.getD (min m (ws.length - 1)) rb0).lo ≤ n ∧ n ≤ (ws.getD (min m (ws.length - 1)) rb0).hi := by
  have hl := h.len
  have n1 := h.n1
  rcases Nat.lt_or_ge m ws.length with c | c
  · rw [Nat.min_eq_left (by omega)]
    have o := h.one m c
    rw [h.sg c hk]
    split
    · exact .inl rfl
    · split
      · exact .inr (.inr ⟨_, rfl, Nat.le_refl _, o.2.1⟩)
      · split
        · exact .inr (.inl ⟨rfl, c⟩)
        · split
          · exact .inr (.inr ⟨_, rfl, o.2.1, Nat.le_refl _⟩)
          · exact .inl rfl
  · obtain rfl : m = ws.length := by omega
    rw [Nat.min_eq_right (by omega), h.sgL hk]
    split
    · exact .inl rfl
    · split
      · refine .inr (.inr ⟨_, rfl, ?_⟩)
        refine h.last.bnd _ ?_
        rw [List.getD_eq_getElem?_getD, List.getElem?_eq_getElem (by omega)]
        exact List.getElem_mem _
      · exact .inl rfl
theorem Sh.lo_mono (m : Nat) : (ws.getD (min m (ws.length - 1)) rb0).lo ≤ (ws.getD (min (m + 1) (ws.length - 1)) rb0).lo ∧ (ws.getD (min (m + 1) (ws.length - 1)) rb0).hi ≤ (ws.getD (min m (ws.length - 1)) rb0).hi := by
  have n1 := h.n1
  rcases Nat.lt_or_ge (m + 1) ws.length with c | c
  · rw [Nat.min_eq_left (by omega), Nat.min_eq_left (by omega)]
    have n := h.nxt m c
    exact ⟨n.lo, n.hi⟩
  · rw [Nat.min_eq_right (by omega), Nat.min_eq_right (by omega)]
    exact ⟨Nat.le_refl _, Nat.le_refl _⟩
theorem Sh.bd : ∀ (g m k a : Nat), rs.length ≤ m + g → k ≤ m → a ∈ lead rs m k → (ws.getD (min m (ws.length - 1)) rb0).lo ≤ a ∧ a ≤ (ws.getD (min m (ws.length - 1)) rb0).hi
  | 0, m, k, a, hf, _, ha => by
    rw [lead_out (by omega)] at ha
    cases ha
  | g + 1, m, k, a, hf, hk, ha => by
    rcases Nat.lt_or_ge m rs.length with hm | hm
    · have hl := h.rl hm
      rw [lead_eq rs m k hm (by omega)] at ha
      rcases h.at_ hm hk with z | ⟨z, _⟩ | ⟨n, z, b1, b2⟩
      · rw [z, if_neg (by decide), if_pos rfl] at ha
        cases ha
      · rw [z, if_pos rfl] at ha
        have hd := of_decide_eq_true (List.mem_filter.mp ha).2
        have lm := h.lo_mono m
        rcases hd with y | y
        · have := Sh.bd g (m + 1) k a (by omega) (by omega) y
          omega
        · have := Sh.bd g (m + 1) (k + 1) a (by omega) (by omega) y
          omega
      · rw [z, if_neg (by omega), if_neg (by omega)] at ha
        have := List.mem_singleton.mp ha
        omega
    · rw [lead_out hm] at ha
      cases ha
theorem Sh.one_lead {m k n a : Nat} (hm : m < rs.length) (hk : k ≤ m) (e : sgn rs m k = 48 + n) (ha : a ∈ lead rs m k) : a = n := by
  have hl := h.rl hm
  rw [lead_eq rs m k hm (by omega), e, if_neg (by omega), if_neg (by omega)] at ha
  have := List.mem_singleton.mp ha
  omega
theorem Sh.up : Rising rs := by
  intro m k hm hk h45 hn a ha b hb
  have hl := h.len
  have n1 := h.n1
  have ba := h.bd rs.length (m + 1) k a (by omega) (by omega) ha
  have bb := h.bd rs.length (m + 1) (k + 1) b (by omega) (by omega) hb
  have hmw : m < ws.length := by omega
  have s0 := h.sg hmw hk
  rw [h45] at s0
  have o0 := h.one m hmw
  -- the dashes of row m
  have win : (ws.getD m rb0).f + (ws.getD m rb0).a ≤ k ∧ k < (ws.getD m rb0).f + (ws.getD m rb0).a + (ws.getD m rb0).d := by
    split at s0
    · omega
    · split at s0
      · omega
      · split at s0
        · omega
        · split at s0 <;> omega
  clear s0
  rcases Nat.lt_or_ge (m + 1) ws.length with c | c
  · have nx := h.nxt m c
    have nf := nx.f
    have nw := nx.w
    rw [Nat.min_eq_left (by omega)] at ba bb
    have s1 := h.sg (i := m + 1) (k := k) c (by omega)
    have s2 := h.sg (i := m + 1) (k := k + 1) c (by omega)
    generalize ws.getD (m + 1) rb0 = v at *
    generalize ws.getD m rb0 = u at *
    rw [if_neg (by omega)] at s1 s2
    by_cases c1 : k < v.f + v.a
    · rw [if_pos c1] at s1
      have := h.one_lead (by omega) (by omega) s1 ha
      omega
    · rw [if_neg c1] at s1
      rw [if_neg (by omega)] at s2
      by_cases c2 : k + 1 < v.f + v.a + v.d
      · rw [if_pos c2] at s2
        rw [if_pos (by omega)] at s1
        omega
      · rw [if_neg c2, if_pos (by omega)] at s2
        have := h.one_lead (by omega) (by omega) s2 hb
        omega
  · obtain rfl : m = ws.length - 1 := by omega
    rw [show ws.length - 1 + 1 = ws.length by omega] at *
    have cl := h.last.cl
    have s1 := h.sgL (k := k) (by omega)
    have s2 := h.sgL (k := k + 1) (by omega)
    have asc := h.last.asc
    rw [if_neg (by omega), if_pos (by omega)] at s1 s2
    have e1 := h.one_lead (by omega) (by omega) s1 ha
    have e2 := h.one_lead (by omega) (by omega) s2 hb
    rw [e1, e2]
    generalize ws.getD (ws.length - 1) rb0 = w at *
    have i1 : k - (w.f + w.a) < cs.length := by omega
    have i2 : k + 1 - (w.f + w.a) < cs.length := by omega
    rw [List.getD_eq_getElem?_getD, List.getElem?_eq_getElem i1, List.getD_eq_getElem?_getD, List.getElem?_eq_getElem i2]
    exact List.pairwise_iff_getElem.mp asc _ _ i1 i2 (by omega)
theorem Sh.entI {i k : Nat} (hi : i < ws.length) (hk : k ≤ i + 1) : ent (rs.getD i []) k = decide ((ws.getD i rb0).f + (ws.getD i rb0).a ≤ k ∧ k ≤ (ws.getD i rb0).f + (ws.getD i rb0).a + (ws.getD i rb0).d) := by
  have hl := h.len
  have rl := h.rl (i := i) (by omega)
  have o := h.one i hi
  have ff := h.fit_ i hi
  have at45 : ∀ j, ((rs.getD i [])[j]? == some 45) = decide ((ws.getD i rb0).f + (ws.getD i rb0).a ≤ j ∧ j < (ws.getD i rb0).f + (ws.getD i rb0).a + (ws.getD i rb0).d) := fun j => by
    rcases Nat.lt_or_ge j (i + 1) with c | c
    · have s := h.sg hi (k := j) (by omega)
      unfold sgn at s
      rw [List.getD_eq_getElem?_getD, List.getElem?_eq_getElem (by omega)] at s
      rw [List.getElem?_eq_getElem (by omega)]
      have s : (rs.getD i [])[j]'(by omega) = _ := s
      rw [s]
      generalize ws.getD i rb0 = w at *
      rw [Bool.eq_iff_iff, beq_iff_eq, decide_eq_true_iff]
      split
      · simp
        omega
      · split
        · simp
          omega
        · split
          · simp
            omega
          · split <;> simp <;> omega
    · rw [List.getElem?_eq_none (by omega)]
      generalize ws.getD i rb0 = w at *
      rw [decide_eq_false (by omega)] <;> rfl
  unfold ent
  rw [at45, at45]
  generalize ws.getD i rb0 = w at *
  rw [Bool.eq_iff_iff, Bool.or_eq_true, Bool.and_eq_true, decide_eq_true_iff, decide_eq_true_iff, decide_eq_true_iff, decide_eq_true_iff]
  omega
theorem Sh.fits {i : Nat} (hi : i + 1 < rs.length) : fit (rs.getD (i + 1) []) (rs.getD i []) = true := by
  have hl := h.len
  have n1 := h.n1
  have r1 := h.rl (i := i) (by omega)
  have r2 := h.rl hi
  have hiw : i < ws.length := by omega
  unfold fit
  rw [Bool.and_eq_true, decide_eq_true_iff]
  refine ⟨by omega, List.all_eq_true.mpr fun k hk => ?_⟩
  have hk := List.mem_range.mp hk
  rw [h.entI hiw (by omega)]
  have key : (sgn rs (i + 1) k = 46 ∧ ¬ ((ws.getD i rb0).f + (ws.getD i rb0).a ≤ k ∧ k ≤ (ws.getD i rb0).f + (ws.getD i rb0).a + (ws.getD i rb0).d)) ∨ (isS (sgn rs (i + 1) k) = true ∧ ((ws.getD i rb0).f + (ws.getD i rb0).a ≤ k ∧ k ≤ (ws.getD i rb0).f + (ws.getD i rb0).a + (ws.getD i rb0).d)) := by
    have isd : ∀ n, n ≤ 7 → isS (48 + n) = true := fun n hn => by
      unfold isS
      simp
      omega
    rcases Nat.lt_or_ge (i + 1) ws.length with c | c
    · have nx := h.nxt i c
      have o := h.one (i + 1) c
      have nf := nx.f
      have nw := nx.w
      rw [h.sg c (by omega)]
      generalize ws.getD (i + 1) rb0 = v at *
      generalize ws.getD i rb0 = u at *
      split
      · exact .inl ⟨rfl, by omega⟩
      · split
        · exact .inr ⟨isd _ (by omega), by omega⟩
        · split
          · exact .inr ⟨rfl, by omega⟩
          · split
            · exact .inr ⟨isd _ (by omega), by omega⟩
            · exact .inl ⟨rfl, by omega⟩
    · obtain rfl : i = ws.length - 1 := by omega
      rw [show ws.length - 1 + 1 = ws.length by omega] at *
      have cl := h.last.cl
      have bnd := h.last.bnd
      have o := h.one (ws.length - 1) hiw
      rw [h.sgL (by omega)]
      generalize ws.getD (ws.length - 1) rb0 = w at *
      split
      · exact .inl ⟨rfl, by omega⟩
      · split
        · refine .inr ⟨isd _ ?_, by omega⟩
          have : cs.getD (k - (w.f + w.a)) 0 ∈ cs := by
            rw [List.getD_eq_getElem?_getD, List.getElem?_eq_getElem (by omega)]
            exact List.getElem_mem _
          have := bnd _ this
          omega
        · exact .inl ⟨rfl, by omega⟩
  have es : (rs.getD (i + 1) []).getD k 0 = sgn rs (i + 1) k := rfl
  rw [es]
  rcases key with ⟨e, g⟩ | ⟨e, g⟩
  · rw [decide_eq_false g, e] <;> rfl
  · rw [decide_eq_true g, e] <;> rfl
theorem Sh.no {c : Nat} (hc : c ∈ rs.flatten) : c < 48 ∨ (48 ≤ c ∧ c ≤ 55) := by
  obtain ⟨r, hr, hc⟩ := List.mem_flatten.mp hc
  obtain ⟨m, hm, rfl⟩ := List.mem_iff_getElem.mp hr
  obtain ⟨k, hk, rfl⟩ := List.mem_iff_getElem.mp hc
  have rl := h.rl hm
  have er : rs.getD m [] = rs[m] := by rw [List.getD_eq_getElem?_getD, List.getElem?_eq_getElem hm] <;> rfl
  have e : sgn rs m k = (rs[m])[k] := by
    unfold sgn
    rw [er, List.getD_eq_getElem?_getD, List.getElem?_eq_getElem hk] <;> rfl
  rw [er] at rl
  rw [← e]
  have n1 := h.n1
  rcases h.at_ hm (k := k) (by omega) with z | ⟨z, _⟩ | ⟨n, z, _, b2⟩
  · omega
  · omega
  · have := h.one (min m (ws.length - 1)) (by omega)
    omega
theorem Sh.plan (h20 : ws.length ≤ 20) (many : 2 ≤ (cls rs).length) (all_ : cls rs = List.range (cls rs).length) : Plan rs := by
  have hl := h.len
  have n1 := h.n1
  refine ⟨⟨by omega, by omega, ?_, fun i hi => h.fits hi, ?_, ?_, many, all_⟩, h.up⟩
  · rw [h.row 0 n1]
    obtain ⟨z1, z2, z3, z4⟩ := h.zero
    unfold RB.row
    rw [z1, z2, z3, z4] <;> rfl
  · rw [hl, Nat.add_sub_cancel, h.last.row]
    intro hm
    have bnd := h.last.bnd
    rcases List.mem_append.mp hm with z | z
    · rcases List.mem_append.mp z with y | y
      · have := List.eq_of_mem_replicate y
        omega
      · obtain ⟨c, _, e⟩ := List.mem_map.mp y
        omega
    · have := List.eq_of_mem_replicate z
      omega
  · rw [hl, Nat.add_sub_cancel, h.last.row]
    have cl := h.last.cl
    have hc : 0 < cs.length := by omega
    refine ⟨48 + cs[0], List.mem_append_left _ (List.mem_append_right _ (List.mem_map.mpr ⟨cs[0], List.getElem_mem _, rfl⟩)), by omega⟩
/-- numbered rows are a plan -/
theorem Sh.numbered (h20 : ws.length ≤ 20) {M : Nat} (hM : 2 ≤ M) (h2 : 2 ≤ (cls rs).length) : Plan (mapF (fun n => min (rho (cls rs) n) (M - 1)) rs) := by
  have h8 := rho_le rs
  have p := cls_asc rs
  have l8 := cls_len rs
  have sh := h.num (ρ := fun n => min (rho (cls rs) n) (M - 1)) (fun a b ab => by have := rho_mono (cls rs) ab; omega) (fun n hn => by have := h8 n hn; omega)
  have ec := cls_mapF (ρ := fun n => min (rho (cls rs) n) (M - 1)) (rs := rs) (L := min (cls rs).length M) (by omega) (fun a ha => by have := (rho_lt p ha).1; omega) (fun n hn => by
    have hn1 : n < (cls rs).length := by omega
    have ha : (cls rs)[n]? = some (cls rs)[n] := List.getElem?_eq_getElem hn1
    refine ⟨(cls rs)[n], List.getElem_mem _, ?_⟩
    have e : rho (cls rs) (cls rs)[n] = n := less_at p ha
    rw [e]
    omega) fun c hc => h.no hc
  exact sh.plan (by rw [List.length_map]; exact h20) (by rw [ec, List.length_range]; omega) (by rw [ec, List.length_range])
end
/-- the rows in the place of those with one class only -/
theorem two_plan {N : Nat} (h1 : 1 ≤ N) (h20 : N ≤ 20) : Plan (plainR N fun k => min k 1) := plain_plan ⟨rfl, fun k => ⟨by omega, by omega⟩, by omega, by omega⟩ h1 h20
end Pln

set_option Elab.async false
set_option linter.all false
set_option maxRecDepth 100000
set_option maxHeartbeats 8000000
/-! PlnO (plain): draws counted by states, and by all marks -/
namespace Pln
open PySem
/-! ### sums -/
def lsum {α : Type} (xs : List α) (f : α → Int) : Int := xs.foldr (fun x a => f x + a) 0
theorem lsum_nil {α : Type} {f : α → Int} : lsum [] f = 0 := rfl
theorem lsum_cons {α : Type} {x : α} {xs : List α} {f : α → Int} : lsum (x :: xs) f = f x + lsum xs f := rfl
theorem lsum_app {α : Type} {f : α → Int} : ∀ {xs ys : List α}, lsum (xs ++ ys) f = lsum xs f + lsum ys f
  | [], ys => by rw [List.nil_append, lsum_nil, Int.zero_add]
  | x :: xs, ys => by rw [List.cons_append, lsum_cons, lsum_cons, lsum_app (xs := xs), Int.add_assoc]
theorem lsum_map {α β : Type} {f : β → Int} {g : α → β} : ∀ {xs : List α}, lsum (xs.map g) f = lsum xs fun x => f (g x)
  | [] => rfl
  | x :: xs => by rw [List.map_cons, lsum_cons, lsum_cons, lsum_map (xs := xs)]
theorem lsum_congr {α : Type} {f g : α → Int} : ∀ {xs : List α}, (∀ x ∈ xs, f x = g x) → lsum xs f = lsum xs g
  | [], _ => rfl
  | x :: xs, h => by rw [lsum_cons, lsum_cons, h x (.head _), lsum_congr (xs := xs) fun y hy => h y (.tail _ hy)]
theorem lsum_add {α : Type} {f g : α → Int} : ∀ {xs : List α}, (lsum xs fun x => f x + g x) = lsum xs f + lsum xs g
  | [] => rfl
  | x :: xs => by rw [lsum_cons, lsum_cons, lsum_cons, lsum_add (xs := xs)]; omega
theorem lsum_zero {α : Type} : ∀ {xs : List α}, (lsum xs fun _ => (0 : Int)) = 0
  | [] => rfl
  | x :: xs => by rw [lsum_cons, lsum_zero (xs := xs)] <;> rfl
theorem lsum_mul {α : Type} {f : α → Int} {c : Int} : ∀ {xs : List α}, (lsum xs fun x => c * f x) = c * lsum xs f
  | [] => by rw [lsum_nil, lsum_nil, Int.mul_zero]
  | x :: xs => by rw [lsum_cons, lsum_cons, lsum_mul (xs := xs), Int.mul_add]
theorem lsum_filter {α : Type} {f : α → Int} {p : α → Bool} : ∀ {xs : List α}, lsum (xs.filter p) f = lsum xs fun x => if p x = true then f x else 0
  | [] => rfl
  | x :: xs => by
    rw [List.filter_cons, lsum_cons, ← lsum_filter (xs := xs)]
    split
    · rw [lsum_cons]
    · rw [Int.zero_add]
theorem lsum_flat {α β : Type} {f : β → Int} {g : α → List β} : ∀ {xs : List α}, lsum (xs.flatMap g) f = lsum xs fun x => lsum (g x) f
  | [] => rfl
  | x :: xs => by rw [List.flatMap_cons, lsum_app, lsum_cons, lsum_flat (xs := xs)]
theorem lsum_fm {α β : Type} {f : β → Int} {g : α → Option β} : ∀ {xs : List α}, lsum (xs.filterMap g) f = lsum xs fun x => match g x with | some y => f y | none => 0
  | [] => rfl
  | x :: xs => by
    rw [List.filterMap_cons, lsum_cons, ← lsum_fm (xs := xs)]
    cases g x with
    | none => exact (Int.zero_add _).symm
    | some y => exact lsum_cons
theorem lsum_range {f : Nat → Int} (n : Nat) : lsum (List.range (n + 1)) f = lsum (List.range n) f + f n := by
  rw [List.range_succ, lsum_app, lsum_cons, lsum_nil, Int.add_zero]
/-- the first one apart -/
theorem lsum_shift {f : Nat → Int} : ∀ n, lsum (List.range (n + 1)) f = f 0 + lsum (List.range n) fun k => f (k + 1)
  | 0 => by rw [lsum_range, List.range_zero, lsum_nil, lsum_nil]; omega
  | n + 1 => by rw [lsum_range, lsum_shift n, lsum_range, Int.add_assoc]
/-! ### falling products -/
def fall (t : Int) : Nat → Int
  | 0 => 1
  | n + 1 => fall t n * (t - n)
theorem fall_head (t : Int) : ∀ n, fall t (n + 1) = t * fall (t - 1) n
  | 0 => by
    show 1 * (t - ((0 : Nat) : Int)) = t * 1
    rw [Int.one_mul, Int.mul_one, Int.natCast_zero, Int.sub_zero]
  | n + 1 => by
    show fall t (n + 1) * (t - ((n + 1 : Nat) : Int)) = t * (fall (t - 1) n * (t - 1 - (n : Int)))
    rw [fall_head t n, Int.mul_assoc, show t - ((n + 1 : Nat) : Int) = t - 1 - (n : Int) by omega]
theorem fall_pos {t : Int} : ∀ {n : Nat}, (n : Int) ≤ t → 0 < fall t n
  | 0, _ => (by decide : (0 : Int) < 1)
  | n + 1, h => Int.mul_pos (fall_pos (by omega)) (by omega)
/-! ### all marks -/
def aM : Nat → List (List Nat)
  | 0 => [[]]
  | n + 1 => (aM n).map (· ++ [0]) ++ (aM n).map (· ++ [1])
theorem aM_len : ∀ {n : Nat} {ms : List Nat}, ms ∈ aM n → ms.length = n ∧ ∀ x ∈ ms, x ≤ 1
  | 0, ms, h => by
    rw [List.mem_singleton.mp h]
    exact ⟨rfl, fun x hx => (by cases hx)⟩
  | n + 1, ms, h => by
    rcases List.mem_append.mp h with z | z <;> obtain ⟨r, hr, rfl⟩ := List.mem_map.mp z <;> have := aM_len hr <;> refine ⟨by rw [List.length_append, this.1] <;> rfl, fun x hx => ?_⟩ <;> rcases List.mem_append.mp hx with y | y
    · exact this.2 x y
    · rw [List.mem_singleton.mp y]; decide
    · exact this.2 x y
    · rw [List.mem_singleton.mp y]; decide
theorem aM_sum (n : Nat) (f : List Nat → Int) : lsum (aM (n + 1)) f = (lsum (aM n) fun ms => f (ms ++ [0])) + lsum (aM n) fun ms => f (ms ++ [1]) := by
  show lsum ((aM n).map _ ++ (aM n).map _) f = _
  rw [lsum_app, lsum_map, lsum_map]
/-- by the first mark -/
theorem aM_first : ∀ (n : Nat) (f : List Nat → Int), lsum (aM (n + 1)) f = (lsum (aM n) fun ms => f (0 :: ms)) + lsum (aM n) fun ms => f (1 :: ms)
  | 0, f => by
    rw [aM_sum] <;> rfl
  | n + 1, f => by
    rw [aM_sum, aM_first n, aM_first n, aM_sum n, aM_sum n]
    show _ + _ + (_ + _) = (lsum (aM n) fun ms => f (0 :: (ms ++ [0]))) + (lsum (aM n) fun ms => f (0 :: (ms ++ [1]))) + ((lsum (aM n) fun ms => f (1 :: (ms ++ [0]))) + lsum (aM n) fun ms => f (1 :: (ms ++ [1])))
    simp only [List.cons_append]
    omega
/-- how many draws have these marks, a marked rows and b others being left -/
def wgt : Int → Int → List Nat → Int
  | _, _, [] => 1
  | a, b, x :: ms => if x = 1 then a * wgt (a - 1) b ms else b * wgt a (b - 1) ms
theorem wgt_all : ∀ (n : Nat) (a b : Int), lsum (aM n) (wgt a b) = fall (a + b) n
  | 0, a, b => rfl
  | n + 1, a, b => by
    rw [aM_first]
    have e0 : (lsum (aM n) fun ms => wgt a b (0 :: ms)) = b * fall (a + b - 1) n := by
      have : (fun ms => wgt a b (0 :: ms)) = fun ms => b * wgt a (b - 1) ms := rfl
      rw [this, lsum_mul, wgt_all n a (b - 1), show a + (b - 1) = a + b - 1 by omega]
    have e1 : (lsum (aM n) fun ms => wgt a b (1 :: ms)) = a * fall (a + b - 1) n := by
      have : (fun ms => wgt a b (1 :: ms)) = fun ms => a * wgt (a - 1) b ms := rfl
      rw [this, lsum_mul, wgt_all n (a - 1) b, show a - 1 + b = a + b - 1 by omega]
    rw [e0, e1, fall_head, ← Int.add_mul, Int.add_comm b a]
/-! ### states -/
/-- the class and the number of rows looked at, from a state on -/
def goM (rs : List (List Nat)) : Nat → Nat → List Nat → Nat × Nat
  | m, k, [] => (sgn rs m k - 48, m)
  | m, k, x :: ms => if sgn rs m k = 45 then goM rs (m + 1) (k + x) ms else (sgn rs m k - 48, m)
/-- the number of ways to a state -/
def way (rs : List (List Nat)) : Nat → Nat → Nat
  | 0, k => if k = 0 then 1 else 0
  | m + 1, k => (if k ≤ m ∧ sgn rs m k = 45 then way rs m k else 0) + if 0 < k ∧ k ≤ m + 1 ∧ sgn rs m (k - 1) = 45 then way rs m (k - 1) else 0
structure Stp where
  m : Nat
  k : Nat
  c : Nat
  w : Nat
def isD (c : Nat) : Bool := decide (48 ≤ c) && decide (c ≤ 57)
def stop1 (rs : List (List Nat)) (m k : Nat) : Option Stp := if isD (sgn rs m k) = true then some ⟨m, k, sgn rs m k - 48, way rs m k⟩ else none
def stops (rs : List (List Nat)) : List Stp := (List.range rs.length).flatMap fun m => (List.range (m + 1)).filterMap (stop1 rs m)
/-- the draws that stop at a state; L the longest look, N rows, M of them marked -/
def drw (L : Nat) (N M : Int) (s : Stp) : Int := s.w * fall M s.k * fall (N - M) (s.m - s.k) * fall (N - s.m) (L - s.m)
section
variable {rs : List (List Nat)} (h : Ok rs) (N M : Int) (φ : Nat → Nat → Int)
/-- what the marks behind a state give -/
def tl (rs : List (List Nat)) (N M : Int) (φ : Nat → Nat → Int) (n m k : Nat) : Int := lsum (aM n) fun ms => φ (goM rs m k ms).1 (goM rs m k ms).2 * wgt (M - k) (N - M - (m - k : Nat)) ms
theorem tl_stop {n m k : Nat} (hk : k ≤ m) (c : sgn rs m k ≠ 45) : tl rs N M φ n m k = φ (sgn rs m k - 48) m * fall (N - m) n := by
  unfold tl
  have e : ∀ ms : List Nat, goM rs m k ms = (sgn rs m k - 48, m) := fun ms => by
    cases ms with
    | nil => rfl
    | cons x ms => exact if_neg c
  rw [lsum_congr (g := fun ms => φ (sgn rs m k - 48) m * wgt (M - k) (N - M - (m - k : Nat)) ms) fun ms _ => by rw [e ms], lsum_mul, wgt_all, show M - (k : Int) + (N - M - ((m - k : Nat) : Int)) = N - (m : Int) by omega]
theorem tl_dash {n m k : Nat} (hk : k ≤ m) (c : sgn rs m k = 45) : tl rs N M φ (n + 1) m k = (N - M - (m - k : Nat)) * tl rs N M φ n (m + 1) k + (M - k) * tl rs N M φ n (m + 1) (k + 1) := by
  unfold tl
  rw [aM_first]
  have e : ∀ (x : Nat) (ms : List Nat), goM rs m k (x :: ms) = goM rs (m + 1) (k + x) ms := fun x ms => if_pos c
  congr 1
  · rw [← lsum_mul]
    refine lsum_congr fun ms _ => ?_
    rw [e, show N - M - ((m + 1 - k : Nat) : Int) = N - M - ((m - k : Nat) : Int) - 1 by omega]
    show _ * ((N - M - ((m - k : Nat) : Int)) * wgt (M - k) (N - M - ((m - k : Nat) : Int) - 1) ms) = _
    rw [Int.mul_left_comm]
    rfl
  · rw [← lsum_mul]
    refine lsum_congr fun ms _ => ?_
    rw [e, show m + 1 - (k + 1) = m - k by omega, show M - ((k + 1 : Nat) : Int) = M - (k : Int) - 1 by omega]
    show _ * ((M - (k : Int)) * wgt (M - k - 1) (N - M - ((m - k : Nat) : Int)) ms) = _
    rw [Int.mul_left_comm]
def fF (N M : Int) (m k : Nat) : Int := fall M k * fall (N - M) (m - k)
theorem fF_up {m k : Nat} (hk : k ≤ m) : fF N M m k * (M - k) = fF N M (m + 1) (k + 1) := by
  unfold fF
  rw [show m + 1 - (k + 1) = m - k by omega]
  show _ = fall M k * (M - k) * _
  rw [Int.mul_right_comm]
theorem fF_on {m k : Nat} (hk : k ≤ m) : fF N M m k * (N - M - (m - k : Nat)) = fF N M (m + 1) k := by
  unfold fF
  rw [show m + 1 - k = m - k + 1 by omega]
  show _ = fall M k * (fall (N - M) (m - k) * (N - M - ((m - k : Nat) : Int)))
  rw [Int.mul_assoc]
/-- the dashes of a row, and the row below -/
theorem row_down {n m : Nat} : (lsum (List.range (m + 1)) fun k => if sgn rs m k = 45 then (way rs m k : Int) * fF N M m k * tl rs N M φ (n + 1) m k else 0) = lsum (List.range (m + 2)) fun k => (way rs (m + 1) k : Int) * fF N M (m + 1) k * tl rs N M φ n (m + 1) k := by
  have e : ∀ k, (way rs (m + 1) k : Int) * fF N M (m + 1) k * tl rs N M φ n (m + 1) k = (if k ≤ m ∧ sgn rs m k = 45 then (way rs m k : Int) * fF N M (m + 1) k * tl rs N M φ n (m + 1) k else 0) + if 0 < k ∧ k ≤ m + 1 ∧ sgn rs m (k - 1) = 45 then (way rs m (k - 1) : Int) * fF N M (m + 1) k * tl rs N M φ n (m + 1) k else 0 := fun k => by
    show (((if k ≤ m ∧ sgn rs m k = 45 then way rs m k else 0) + (if 0 < k ∧ k ≤ m + 1 ∧ sgn rs m (k - 1) = 45 then way rs m (k - 1) else 0) : Nat) : Int) * _ * _ = _
    rw [Int.natCast_add, Int.add_mul, Int.add_mul]
    congr 1 <;> split <;> simp
  rw [lsum_congr (g := fun k => (if k ≤ m ∧ sgn rs m k = 45 then (way rs m k : Int) * fF N M (m + 1) k * tl rs N M φ n (m + 1) k else 0) + if 0 < k ∧ k ≤ m + 1 ∧ sgn rs m (k - 1) = 45 then (way rs m (k - 1) : Int) * fF N M (m + 1) k * tl rs N M φ n (m + 1) k else 0) (xs := List.range (m + 2)) fun k _ => e k, lsum_add]
  rw [lsum_range (m + 1), if_neg (show ¬ (m + 1 ≤ m ∧ sgn rs m (m + 1) = 45) by omega), Int.add_zero]
  rw [lsum_shift (m + 1), if_neg (show ¬ (0 < 0 ∧ 0 ≤ m + 1 ∧ sgn rs m (0 - 1) = 45) by omega), Int.zero_add, ← lsum_add]
  refine lsum_congr fun k hk => ?_
  have hk := List.mem_range.mp hk
  rw [Nat.add_sub_cancel]
  by_cases c : sgn rs m k = 45
  · rw [if_pos c, if_pos ⟨by omega, c⟩, if_pos ⟨by omega, by omega, c⟩, tl_dash N M φ (by omega) c, Int.mul_add]
    congr 1
    · rw [← fF_on N M (m := m) (k := k) (by omega)]
      simp only [Int.mul_assoc]
    · rw [← fF_up N M (m := m) (k := k) (by omega)]
      simp only [Int.mul_assoc]
  · rw [if_neg c, if_neg (fun z => c z.2), if_neg (fun z => c z.2.2)]
    rfl
include h in
theorem kind {m k : Nat} (hm : m < rs.length) (hk : k ≤ m) : (isS (sgn rs m k) = true ∨ sgn rs m k = 46) ∧ (sgn rs m k = 46 → way rs m k = 0) := by
  cases m with
  | zero =>
    obtain rfl : k = 0 := by omega
    have e : sgn rs 0 0 = 45 := by
      unfold sgn
      rw [h.one] <;> rfl
    rw [e]
    exact ⟨.inl (by decide), fun z => absurd z (by decide)⟩
  | succ m =>
    have l0 := h.len m (by omega)
    have l1 := h.len (m + 1) hm
    have f := h.fits m hm
    unfold fit at f
    rw [Bool.and_eq_true] at f
    have g := List.all_eq_true.mp f.2 k (List.mem_range.mpr (by omega))
    rw [Bool.and_eq_true, beq_iff_eq, Bool.or_eq_true, beq_iff_eq] at g
    have g : ent (rs.getD m []) k = isS (sgn rs (m + 1) k) ∧ (isS (sgn rs (m + 1) k) = true ∨ sgn rs (m + 1) k = 46) := g
    refine ⟨g.2, fun z => ?_⟩
    rw [z, show isS 46 = false from rfl] at g
    have g1 := g.1
    unfold ent at g1
    rw [Bool.or_eq_false_iff, Bool.and_eq_false_iff] at g1
    have at_ : ∀ j, j ≤ m → sgn rs m j = 45 → ((rs.getD m [])[j]? == some 45) = true := fun j hj e => by
      unfold sgn at e
      rw [List.getD_eq_getElem?_getD, List.getElem?_eq_getElem (by omega)] at e
      rw [List.getElem?_eq_getElem (by omega), beq_iff_eq]
      exact congrArg some e
    show (if k ≤ m ∧ sgn rs m k = 45 then way rs m k else 0) + (if 0 < k ∧ k ≤ m + 1 ∧ sgn rs m (k - 1) = 45 then way rs m (k - 1) else 0) = 0
    rw [if_neg, if_neg]
    · rintro ⟨a, b, c⟩
      have := at_ (k - 1) (by omega) c
      rcases g1.1 with y | y
      · exact absurd (of_decide_eq_false y) (by omega)
      · rw [this] at y
        cases y
    · rintro ⟨a, b⟩
      have := at_ k a b
      rw [this] at g1
      cases g1.2
def stV (L : Nat) (N M : Int) (φ : Nat → Nat → Int) (s : Stp) : Int := φ s.c s.m * drw L N M s
def rowV (rs : List (List Nat)) (N M : Int) (φ : Nat → Nat → Int) (j : Nat) : Int := lsum (List.range (j + 1)) fun k => match stop1 rs j k with | some s => stV (rs.length - 1) N M φ s | none => 0
include h in
theorem row_split {d m : Nat} (hd : m + d = rs.length - 1) : (lsum (List.range (m + 1)) fun k => (way rs m k : Int) * fF N M m k * tl rs N M φ d m k) = rowV rs N M φ m + lsum (List.range (m + 1)) fun k => if sgn rs m k = 45 then (way rs m k : Int) * fF N M m k * tl rs N M φ d m k else 0 := by
  have two := h.two
  unfold rowV
  rw [← lsum_add]
  refine lsum_congr fun k hk => ?_
  have hk := List.mem_range.mp hk
  obtain ⟨k1, k2⟩ := kind h (m := m) (k := k) (by omega) (by omega)
  by_cases c : sgn rs m k = 45
  · rw [if_pos c]
    have e : stop1 rs m k = none := by
      unfold stop1
      rw [c] <;> rfl
    rw [e]
    exact (Int.zero_add _).symm
  · rw [if_neg c, Int.add_zero]
    rcases k1 with z | z
    · have g : 48 ≤ sgn rs m k ∧ sgn rs m k ≤ 55 := by
        unfold isS at z
        simp at z
        omega
      have e : stop1 rs m k = some ⟨m, k, sgn rs m k - 48, way rs m k⟩ := by
        unfold stop1 isD
        rw [decide_eq_true g.1, decide_eq_true (show sgn rs m k ≤ 57 by omega)] <;> rfl
      rw [e, tl_stop N M φ (by omega) c]
      show _ = φ (sgn rs m k - 48) m * ((way rs m k : Int) * fall M k * fall (N - M) (m - k) * fall (N - m) (rs.length - 1 - m))
      rw [show rs.length - 1 - m = d by omega]
      unfold fF
      simp only [Int.mul_assoc, Int.mul_left_comm, Int.mul_comm]
    · rw [k2 z]
      have e : stop1 rs m k = none := by
        unfold stop1
        rw [z] <;> rfl
      rw [e]
      show ((0 : Nat) : Int) * _ * _ = 0
      rw [Int.natCast_zero, Int.zero_mul, Int.zero_mul]
include h in
/-- all marks, and all stops -/
theorem rows_all : ∀ (d m : Nat), m + d = rs.length - 1 → (lsum (List.range (m + 1)) fun k => (way rs m k : Int) * fF N M m k * tl rs N M φ d m k) = lsum ((List.range (d + 1)).map (m + ·)) (rowV rs N M φ)
  | 0, m, hd => by
    have two := h.two
    rw [row_split h N M φ hd]
    have z : (lsum (List.range (m + 1)) fun k => if sgn rs m k = 45 then (way rs m k : Int) * fF N M m k * tl rs N M φ 0 m k else 0) = 0 := by
      rw [lsum_congr (g := fun _ => 0) fun k hk => ?_, lsum_zero]
      have hk := List.mem_range.mp hk
      refine if_neg fun c => h.ends ?_
      have l := h.len (rs.length - 1) (by omega)
      rw [show m = rs.length - 1 by omega] at c hk
      unfold sgn at c
      rw [List.getD_eq_getElem?_getD, List.getElem?_eq_getElem (by omega)] at c
      have c : (rs.getD (rs.length - 1) [])[k]'(by omega) = 45 := c
      rw [← c]
      exact List.getElem_mem _
    rw [z, Int.add_zero]
    show _ = lsum [m + 0] _
    rw [lsum_cons, lsum_nil, Int.add_zero] <;> rfl
  | d + 1, m, hd => by
    rw [row_split h N M φ hd, row_down, rows_all d (m + 1) (by omega)]
    have e : (List.range (d + 1 + 1)).map (m + ·) = m :: (List.range (d + 1)).map (m + 1 + ·) := by
      rw [List.range_succ_eq_map, List.map_cons, List.map_map]
      refine congrArg (m :: ·) (List.map_congr_left fun x _ => ?_)
      show m + (x + 1) = m + 1 + x
      omega
    rw [e, lsum_cons]
include h in
theorem marks_stops : (lsum (aM (rs.length - 1)) fun ms => φ (goM rs 0 0 ms).1 (goM rs 0 0 ms).2 * wgt M (N - M) ms) = lsum (stops rs) (stV (rs.length - 1) N M φ) := by
  have two := h.two
  have a := rows_all h N M φ (rs.length - 1) 0 (by omega)
  rw [show (List.range (0 + 1) : List Nat) = [0] from rfl, lsum_cons, lsum_nil, Int.add_zero] at a
  have e1 : (way rs 0 0 : Int) * fF N M 0 0 * tl rs N M φ (rs.length - 1) 0 0 = lsum (aM (rs.length - 1)) fun ms => φ (goM rs 0 0 ms).1 (goM rs 0 0 ms).2 * wgt M (N - M) ms := by
    show (1 : Int) * (1 * 1) * _ = _
    rw [Int.one_mul, Int.one_mul, Int.one_mul]
    unfold tl
    refine lsum_congr fun ms _ => ?_
    rw [Int.natCast_zero, Int.sub_zero, Int.sub_zero]
  rw [e1] at a
  rw [a]
  unfold stops
  rw [lsum_flat, show rs.length - 1 + 1 = rs.length by omega]
  have e2 : (List.range rs.length).map (0 + ·) = List.range rs.length := by
    rw [List.map_congr_left (g := id), List.map_id]
    intro x _
    exact Nat.zero_add x
  rw [e2]
  refine lsum_congr fun j _ => ?_
  rw [lsum_fm]
  unfold rowV
  refine lsum_congr fun k _ => ?_
  cases stop1 rs j k <;> rfl
end
end Pln

set_option Elab.async false
set_option linter.all false
set_option maxRecDepth 100000
set_option maxHeartbeats 8000000
/-! PlnT (plain): all draws of a small table -/
namespace Pln
open PySem
/-- the rows that are drawn, one by one -/
def dr (N : Nat) : Nat → List (List Nat)
  | 0 => [[]]
  | n + 1 => (dr N n).flatMap fun o => ((List.range N).filter fun r => !decide (r ∈ o)).map fun r => o ++ [r]
theorem dr_mem {N : Nat} : ∀ {n : Nat} {o : List Nat}, o ∈ dr N n → o.length = n ∧ o.Nodup ∧ ∀ r ∈ o, r < N
  | 0, o, h => by
    rw [List.mem_singleton.mp h]
    exact ⟨rfl, List.nodup_nil, fun r hr => by cases hr⟩
  | n + 1, o, h => by
    obtain ⟨p, hp, q⟩ := List.mem_flatMap.mp h
    obtain ⟨r, hr, rfl⟩ := List.mem_map.mp q
    obtain ⟨h1, h2, h3⟩ := dr_mem hp
    obtain ⟨r1, r2⟩ := List.mem_filter.mp hr
    have r1 := List.mem_range.mp r1
    rw [Bool.not_eq_true', decide_eq_false_iff_not] at r2
    refine ⟨by rw [List.length_append, h1] <;> rfl, List.nodup_append.mpr ⟨h2, List.nodup_cons.mpr ⟨List.not_mem_nil, List.nodup_nil⟩, fun a ha b hb => ?_⟩, fun x hx => ?_⟩
    · rw [List.mem_singleton.mp hb]
      exact fun e => r2 (e ▸ ha)
    · rcases List.mem_append.mp hx with y | y
      · exact h3 x y
      · rw [List.mem_singleton.mp y]; exact r1
theorem lsum_sub {α : Type} {f g : α → Int} : ∀ {xs : List α}, (lsum xs fun x => f x - g x) = lsum xs f - lsum xs g
  | [] => rfl
  | x :: xs => by rw [lsum_cons, lsum_cons, lsum_cons, lsum_sub (xs := xs)]; omega
theorem lsum_pick {g : Nat → Int} : ∀ {n c : Nat}, c < n → (lsum (List.range n) fun k => if k = c then g k else 0) = g c
  | n + 1, c, h => by
    rw [lsum_range]
    by_cases e : n = c
    · rw [if_pos e, e]
      have : (lsum (List.range c) fun k => if k = c then g k else 0) = lsum (List.range c) fun _ => 0 := lsum_congr fun k hk => by
        rw [if_neg (by have := List.mem_range.mp hk; omega)]
      rw [this, lsum_zero, Int.zero_add]
    · rw [if_neg e, Int.add_zero]
      exact lsum_pick (by omega)
theorem lsum_in {N : Nat} {h : Nat → Int} : ∀ {o : List Nat}, o.Nodup → (∀ r ∈ o, r < N) → (lsum (List.range N) fun r => if r ∈ o then h r else 0) = lsum o h
  | [], _, _ => by
    rw [lsum_nil]
    refine Eq.trans (lsum_congr fun r _ => if_neg (fun z => by cases z)) (lsum_zero (xs := List.range N))
  | x :: o, nd, lt => by
    obtain ⟨n1, n2⟩ := List.nodup_cons.mp nd
    rw [lsum_cons, ← lsum_in n2 fun r hr => lt r (.tail _ hr), ← lsum_pick (g := h) (lt x (.head _)), ← lsum_add]
    refine lsum_congr fun r _ => ?_
    by_cases e : r = x
    · subst e
      rw [if_pos (.head _), if_pos rfl, if_neg n1, Int.add_zero]
    · by_cases e2 : r ∈ o
      · rw [if_pos (.tail _ e2), if_neg e, if_pos e2, Int.zero_add]
      · rw [if_neg (fun z => by rcases List.mem_cons.mp z with y | y; exact e y; exact e2 y), if_neg e, if_neg e2] <;> rfl
theorem lsum_out {N : Nat} {h : Nat → Int} {o : List Nat} (nd : o.Nodup) (lt : ∀ r ∈ o, r < N) : lsum ((List.range N).filter fun r => !decide (r ∈ o)) h = lsum (List.range N) h - lsum o h := by
  rw [lsum_filter, ← lsum_in nd lt, ← lsum_sub]
  refine lsum_congr fun r _ => ?_
  by_cases e : r ∈ o
  · rw [decide_eq_true e, if_neg (by decide), if_pos e]; omega
  · rw [decide_eq_false e, if_pos (by decide), if_neg e]; omega
/-- ones and zeros of marks -/
def one1 (ms : List Nat) : Int := lsum ms fun x => (x : Int)
theorem lsum_mk {mk : Nat → Nat} {f : Nat → Int} (h1 : ∀ r, mk r ≤ 1) : ∀ {xs : List Nat}, (lsum xs fun r => f (mk r)) = (lsum xs fun r => (mk r : Int)) * f 1 + ((xs.length : Int) - lsum xs fun r => (mk r : Int)) * f 0
  | [] => by rw [lsum_nil, lsum_nil]; simp
  | x :: xs => by
    rw [lsum_cons, lsum_cons, lsum_mk h1 (xs := xs), List.length_cons, show ((xs.length + 1 : Nat) : Int) = (xs.length : Int) + 1 by omega]
    generalize (lsum xs fun r => (mk r : Int)) = A
    generalize (xs.length : Int) = l
    rcases (show mk x = 0 ∨ mk x = 1 by have := h1 x; omega) with e | e <;> rw [e]
    · rw [Int.natCast_zero, Int.zero_add, show l + 1 - A = l - A + 1 by omega, Int.add_mul (l - A), Int.one_mul]; omega
    · rw [Int.natCast_one, show l + 1 - (1 + A) = l - A by omega, Int.add_mul 1 A, Int.one_mul]; omega
theorem wgt_snoc (x : Nat) (hx : x ≤ 1) : ∀ (ms : List Nat) (a b : Int), (∀ y ∈ ms, y ≤ 1) → wgt a b (ms ++ [x]) = wgt a b ms * if x = 1 then a - one1 ms else b - ((ms.length : Int) - one1 ms)
  | [], a, b, _ => by
    show (if x = 1 then a * 1 else b * 1) = 1 * if x = 1 then a - 0 else b - (((0 : Nat) : Int) - 0)
    split <;> simp
  | y :: ms, a, b, h => by
    have ih := fun a b => wgt_snoc x hx ms a b fun z hz => h z (.tail _ hz)
    show (if y = 1 then a * wgt (a - 1) b (ms ++ [x]) else b * wgt a (b - 1) (ms ++ [x])) = (if y = 1 then a * wgt (a - 1) b ms else b * wgt a (b - 1) ms) * if x = 1 then a - one1 (y :: ms) else b - (((y :: ms).length : Int) - one1 (y :: ms))
    have e1 : one1 (y :: ms) = (y : Int) + one1 ms := lsum_cons
    rw [ih, ih, e1, List.length_cons]
    rcases (show y = 0 ∨ y = 1 by have := h y (.head _); omega) with rfl | rfl
    · show b * (wgt a (b - 1) ms * (if x = 1 then a - one1 ms else b - 1 - ((ms.length : Int) - one1 ms))) = b * wgt a (b - 1) ms * (if x = 1 then a - (((0 : Nat) : Int) + one1 ms) else b - (((ms.length + 1 : Nat) : Int) - (((0 : Nat) : Int) + one1 ms)))
      rw [Int.mul_assoc]
      congr 2
      split <;> omega
    · show a * (wgt (a - 1) b ms * (if x = 1 then a - 1 - one1 ms else b - ((ms.length : Int) - one1 ms))) = a * wgt (a - 1) b ms * (if x = 1 then a - (((1 : Nat) : Int) + one1 ms) else b - (((ms.length + 1 : Nat) : Int) - (((1 : Nat) : Int) + one1 ms)))
      rw [Int.mul_assoc]
      congr 2
      split <;> omega
theorem dr_sum {N : Nat} {mk : Nat → Nat} (h1 : ∀ r, mk r ≤ 1) {M : Int} (hM : M = lsum (List.range N) fun r => (mk r : Int)) : ∀ (n : Nat) (f : List Nat → Int), (lsum (dr N n) fun o => f (o.map mk)) = lsum (aM n) fun ms => wgt M (N - M) ms * f ms
  | 0, f => by
    show f [] + 0 = 1 * f [] + 0
    rw [Int.one_mul]
  | n + 1, f => by
    show lsum ((dr N n).flatMap _) _ = _
    rw [lsum_flat, aM_sum]
    have e1 : (lsum (dr N n) fun o => lsum (((List.range N).filter fun r => !decide (r ∈ o)).map fun r => o ++ [r]) fun o => f (o.map mk)) = lsum (dr N n) fun o => (fun ms => (M - one1 ms) * f (ms ++ [1]) + ((N : Int) - M - ((ms.length : Int) - one1 ms)) * f (ms ++ [0])) (o.map mk) := lsum_congr fun o ho => by
      obtain ⟨l, nd, lt⟩ := dr_mem ho
      rw [lsum_map]
      have e2 : (lsum ((List.range N).filter fun r => !decide (r ∈ o)) fun r => f ((o ++ [r]).map mk)) = lsum ((List.range N).filter fun r => !decide (r ∈ o)) fun r => (fun x => f (o.map mk ++ [x])) (mk r) := lsum_congr fun r _ => by
        rw [List.map_append] <;> rfl
      rw [e2, lsum_out nd lt, lsum_mk h1 (f := fun x => f (o.map mk ++ [x])), lsum_mk h1 (f := fun x => f (o.map mk ++ [x])), ← hM, List.length_range]
      have e3 : one1 (o.map mk) = lsum o fun r => (mk r : Int) := lsum_map
      dsimp only
      rw [e3, List.length_map]
      generalize (lsum o fun r => (mk r : Int)) = B
      generalize (o.length : Int) = l
      generalize f (o.map mk ++ [1]) = F1
      generalize f (o.map mk ++ [0]) = F0
      rw [Int.sub_mul M B F1, Int.sub_mul ((N : Int) - M) (l - B) F0]
      omega
    rw [e1, dr_sum h1 hM n (fun ms => (M - one1 ms) * f (ms ++ [1]) + ((N : Int) - M - ((ms.length : Int) - one1 ms)) * f (ms ++ [0])), ← lsum_add]
    refine lsum_congr fun ms hms => ?_
    obtain ⟨l, one⟩ := aM_len hms
    rw [wgt_snoc 0 (by decide) ms _ _ one, wgt_snoc 1 (by decide) ms _ _ one, if_neg (by decide), if_pos rfl, Int.mul_add, Int.mul_assoc, Int.mul_assoc]
    omega
theorem dr_len {N : Nat} (n : Nat) : ((dr N n).length : Int) = fall N n := by
  have a := dr_sum (N := N) (mk := fun _ => 0) (fun _ => by decide) (M := 0) (lsum_zero (xs := List.range N)).symm n fun _ => 1
  have e : ∀ {α : Type} (xs : List α), (lsum xs fun _ => (1 : Int)) = xs.length := fun xs => by
    induction xs with
    | nil => rfl
    | cons x xs ih => rw [lsum_cons, ih, List.length_cons]; omega
  rw [e] at a
  rw [a, lsum_congr (g := wgt 0 (N - 0)) fun ms _ => Int.mul_one _, wgt_all, Int.zero_add, Int.sub_zero]
theorem dr_small {N n : Nat} (hN : N ≤ 6) (hn : n ≤ 4) : (dr N n).length ≤ 1296 := by
  have step : ∀ n, (dr N (n + 1)).length ≤ (dr N n).length * 6 := fun n => by
    show ((dr N n).flatMap _).length ≤ _
    generalize dr N n = xs
    induction xs with
    | nil => exact Nat.zero_le _
    | cons x xs ih =>
      rw [List.flatMap_cons, List.length_append, List.length_map, List.length_cons, Nat.succ_mul]
      have := List.length_filter_le (fun r => !decide (r ∈ x)) (List.range N)
      rw [List.length_range] at this
      omega
  have s0 : (dr N 0).length = 1 := rfl
  have s1 : (dr N 1).length ≤ (dr N 0).length * 6 := step 0
  have s2 : (dr N 2).length ≤ (dr N 1).length * 6 := step 1
  have s3 : (dr N 3).length ≤ (dr N 2).length * 6 := step 2
  have s4 : (dr N 4).length ≤ (dr N 3).length * 6 := step 3
  rcases (show n = 0 ∨ n = 1 ∨ n = 2 ∨ n = 3 ∨ n = 4 by omega) with rfl | rfl | rfl | rfl | rfl <;> omega
end Pln

set_option Elab.async false
set_option linter.all false
set_option maxRecDepth 100000
set_option maxHeartbeats 8000000
namespace Toy
open PySem PySem.Spec PyProof.Rows L2 My Dt SX Pln
local macro_rules | `(tactic| walk_at "rg") => `(tactic| first
  | omega
  | ((refine And.intro ?_ (And.intro ?_ (And.intro ?_ ?_))) <;> omega))
local macro_rules | `(tactic| walk_at "ls") => `(tactic| first
  | with_reducible exact ls_v
  | with_reducible exact ls_b
  | ((with_reducible refine' ls_p ?hlp); (case hlp => with_reducible assumption)))
local macro_rules | `(tactic| walk_at "start") => `(tactic| ((simp only [startM, startS, List.map_cons, List.map_nil, List.length_cons, List.length_nil, List.cons_append, List.nil_append, Nat.reduceAdd, Nat.reduceSub, List.replicate_succ, List.replicate_zero]); exact rfl))
local macro_rules | `(tactic| walk_at "set") => `(tactic| first
  | ((dsimp only [Int.reduceToNat, List.set_cons_zero, List.set_cons_succ, VO.sl]); done)
  | ((dsimp only [Int.reduceToNat, List.set_cons_zero, List.set_cons_succ, VO.sl]); exact rfl)
  | exact rfl)
local macro_rules | `(tactic| walk_at "sz") => `(tactic| first
  | exact sz_of (Nat.le_of_ble_eq_true rfl)
  | (apply sz_of; simp only [List.length_cons, List.length_nil, List.length_append, List.length_map]; omega))
local macro_rules | `(tactic| walk_at "side") => `(tactic| first
  | with_reducible assumption
  | omega
  | exact ml (by omega) (by omega)
  | exact mr (by omega) (by omega)
  | exact dv (by omega) (by omega)
  | exact Bd.mulOk (by with_reducible assumption) (by with_reducible assumption) (by decide) (by decide) (by decide)
  | exact Bd.div (by with_reducible assumption) (by omega) (by decide) (by decide)
  | (show (0 : Int) < _; omega)
  | exact ⟨by decide, by decide, by decide⟩
  | decide
  | exact rfl)
local macro_rules | `(tactic| walk_at "st") => `(tactic| first
  | with_reducible refine q_seq ?_
  | with_reducible refine q_end ?_
  | with_reducible refine q_nil ?_
  | with_reducible refine q_asg ?_
  | with_reducible refine q_ret ?_
  | with_reducible refine q_if ?_
  | with_reducible refine q_expr ?_
  | with_reducible refine q_retN ?_
  | with_reducible refine q_sub ?_
  | with_reducible refine q_for ?_
  | with_reducible refine q_par ?_
  | with_reducible refine q_par3 ?_
  | with_reducible refine q_parV ?_
  | with_reducible refine q_parV3 ?_
  | with_reducible refine q_asgF ?_
  | with_reducible refine q_asgC ?_
  | ((with_reducible refine' q_frz ?ef ?_); (case ef => exact rfl))
  | ((with_reducible refine' q_app ?ea ?eb ?_); (case ea => exact rfl); (case eb => walk_at "slen"))
  | with_reducible refine q_brk ?_
  | with_reducible refine q_cnt ?_
  | with_reducible refine q_fldS ?_
  | with_reducible refine q_fldP ?_
  | with_reducible refine q_raise ?_
  | with_reducible refine q_try ?_)
local macro_rules | `(tactic| walk_at "slen") => `(tactic| first
  | with_reducible assumption
  | ((rw [sizeLine_eq]); (simp only [List.length_cons, List.length_nil, List.length_append, List.length_map]); omega))
local macro_rules | `(tactic| walk_at "sm") => `(tactic| first
  | with_reducible refine s_add ?_
  | with_reducible refine s_sub ?_
  | ((with_reducible refine' s_mul ?hm ?_); (case hm => walk_at "side"))
  | ((with_reducible refine' s_fdiv ?hm ?_); (case hm => walk_at "side"))
  | ((with_reducible refine' s_mod ?hm ?_); (case hm => walk_at "side"))
  | with_reducible refine s_neg ?_
  | ((with_reducible refine' s_pow ?hm ?_); (case hm => walk_at "side"))
  | ((with_reducible refine' s_ixL ?hl ?he ?_); (case hl => walk_at "ls"); (case he => exact rfl))
  | ((with_reducible refine' s_ixT ?he ?_); (case he => exact rfl))
  | ((with_reducible refine' set_L2 ?ha ?hb ?hc ?_); (case ha => with_reducible assumption); (case hb => exact rfl); (case hc => walk_at "set"))
  | with_reducible refine s_addB ?_
  | with_reducible refine s_lt ?_
  | with_reducible refine s_le ?_
  | with_reducible refine s_gt ?_
  | with_reducible refine s_ge ?_
  | with_reducible refine s_eq ?_
  | with_reducible refine s_ne ?_
  | with_reducible refine s_eqS ?_
  | with_reducible refine s_neS ?_
  | with_reducible refine s_isN ?_
  | with_reducible refine s_isNotN ?_
  | with_reducible refine t_bl ?_)
local macro_rules | `(tactic| walk_at "cl") => `(tactic| first
  | with_reducible refine c_int ?_
  | with_reducible refine c_intB ?_
  | with_reducible refine c_abs ?_
  | ((with_reducible refine' c_max ?hm ?_); (case hm => exact rfl))
  | ((with_reducible refine' c_min ?hm ?_); (case hm => exact rfl))
  | ((with_reducible refine' c_divmod ?hm ?_); (case hm => walk_at "side"))
  | ((with_reducible refine' c_len ?hm ?_); (case hm => walk_at "sq"))
  | ((with_reducible refine' c_list ?hm ?_); (case hm => walk_at "sq"))
  | ((with_reducible refine' c_tuple ?hm ?_); (case hm => walk_at "sq")))
local macro_rules | `(tactic| walk_at "sq") => `(tactic| first
  | exact sqL
  | exact sqT
  | exact sqB
  | exact sqP (by with_reducible assumption))
local macro_rules | `(tactic| walk_at "v") => `(tactic| first
  | ((with_reducible refine' v_sh ?ev ?_); (case ev => exact rfl))
  | ((with_reducible refine' v_ol ?ev ?_); (case ev => exact rfl))
  | ((with_reducible refine' v_slf ?ev ?_); (case ev => exact rfl))
  | with_reducible refine q_val ?_
  | ((with_reducible refine' q_walk ?ew ?_); (case ew => exact rfl))
  | ((with_reducible refine' q_rng1 ?ej ?ek ?_); (case ej => walk_at "rg"); (case ek => walk_at "rg"))
  | ((with_reducible refine' q_rng2 ?ej ?_); (case ej => walk_at "rg"))
  | with_reducible refine q_rngL ?_
  | with_reducible refine q_solc ?_
  | with_reducible refine q_sol0 ?_
  | ((with_reducible refine' q_gname ?eg ?_); (case eg => walk_at "set"))
  | ((with_reducible refine' n_set ?eg ?_); (case eg => walk_at "set"))
  | ((with_reducible refine' n_set2 ?eg ?_); (case eg => walk_at "set"))
  | ((with_reducible refine' n_set3 ?eg ?_); (case eg => walk_at "set"))
  | with_reducible refine q_two ?_
  | with_reducible refine q_three ?_
  | with_reducible refine q_vv ?_
  | with_reducible refine q_isS ?_
  | with_reducible refine q_isL ?_
  | with_reducible refine q_twoV ?_
  | with_reducible refine q_threeV ?_
  | with_reducible refine q_bl ?_
  | with_reducible refine q_oint ?_
  | ((with_reducible refine' q_gtup ?el ?_); (case el => exact rfl))
  | with_reducible refine q_gcons ?_
  | with_reducible refine q_gnil ?_
  | with_reducible refine i_t ?_
  | with_reducible refine i_f ?_
  | with_reducible refine i_nt ?_
  | with_reducible refine i_nf ?_
  | ((with_reducible refine' n_t ?en ?_); (case en => exact rfl))
  | ((with_reducible refine' n_f ?en ?_); (case en => exact rfl))
  | ((with_reducible refine' nn_t ?en ?_); (case en => exact rfl))
  | ((with_reducible refine' nn_f ?en ?_); (case en => exact rfl))
  | with_reducible refine And.intro (by walk_at "sz") ?_)
local macro_rules | `(tactic| walk_at "d") => `(tactic| first
  | walk_at "v"
  | walk_at "st"
  | walk_at "sm"
  | walk_at "cl"
  | walk_at "at")
local macro_rules | `(tactic| walk_at "dd") => `(tactic| repeat walk_at "d")
local macro_rules | `(tactic| walk_at "tx") => `(tactic| simp only [l_dash, l_dot, l_nil, l_space, l_figs, l_signs])

variable {P : Program} {w : World} {K : PySem.W.Frag} {mg : Str → Option Value} {base : Heap} {S : Sto} {Ex : XS} {Q : QO}

/-- a bag: what is drawn from -/
def Bag (S : Sto) (n : Nat) : Prop := ∃ a b c : Int, S[n]? = some (.lst [.int a, .int b, .int c]) ∧ 0 ≤ a ∧ a < 2147483629
theorem dv2 {i j : Int} (h1 : 0 < j) (h2 : j < 2 ^ 200) : CDivW i j := wide_div (b := 200) h1 (by omega) (by decide) (by decide)
theorem ok_take (T : Tx K mg) {S : Sto} {n : Nat} {m : Int} {Ex : XS} {Q : QO} (h : Bag S n) (hm : 0 < m) (hm2 : m < 2 ^ 200) (q : ∀ (v : Int) (S' : Sto), 0 ≤ v → v < m → Bag S' n → Bt n S S' → Q (.v (.int v)) S') :
    sFun (bs P w K mg base) 1 (.ref (He.ga K "_law_take")) [] [.ptr n, .int m] [] S Ex Q := by
  obtain ⟨a, b, c, e, a1, a2⟩ := h
  refine' call_d (B := bs P w K mg base) 0 (Classical.choose_spec T.d_law_take) sc_law_take rfl (bm_all (ps := ["_law_bag_here", "_law_many_here"]) (Classical.choose_spec T.d_law_take) (fun _ _ _ _ _ _ us hl => match us, hl with | [_, _], _ => rfl)) (dss_cons (ds_sub (dv 0) de_int (de_bin (de_ix (dv 0) de_int (fun _ _ => rfl)) de_int)) (dss_cons (dst 2 (de_callT (T := "int") rfl T.f_int (by decide +kernel) (da_cons (de_ix (dv 0) de_int (fun _ _ => rfl)) da_nil))) (dss_cons (ds_sub (dv 0) de_int (de_bin (de_bin (de_bin (de_bin (dv 2) (de_bin (de_bin (dv 2) de_int) de_int)) (de_bin de_int (de_ix (dv 0) de_int (fun _ _ => rfl)))) de_int) de_int)) (dss_cons (ds_if (dt_cmp (de_ix (dv 0) de_int (fun _ _ => rfl)) de_int) (dss_cons (ds_asg (de_callB (id := "divmod") rfl T.f_divmod (by decide +kernel) (da_cons (de_callT (T := "int") rfl T.f_int (by decide +kernel) (da_cons (de_ix (dv 0) de_int (fun _ _ => rfl)) da_nil)) (da_cons (dv 1) da_nil))) (dg_tup (n := 2) rfl (dgs_cons (dg_sub (dv 0) de_int) (dgs_cons (dgn 3) dgs_nil)))) (dss_one (ds_ret (dv 3)))) dss_nil) (dss_one (ds_ret (de_bin (de_bin (de_callT (T := "int") rfl T.f_int (by decide +kernel) (da_cons (de_ix (dv 0) de_int (fun _ _ => rfl)) da_nil)) de_int) (dv 1)))))))) ⟨rfl, rfl⟩ ?st ?_
  case st => walk_at "start"
  walk_at "dd"
  intro S1 e1 s1
  clear e
  have r1 := Int.emod_nonneg a (show (30029 : Int) ≠ 0 by decide)
  have r2 := Int.emod_lt_of_pos a (show (0 : Int) < 30029 by decide)
  walk_at "dd"
  intro S2 e2 s2
  clear e1
  have b1 := Int.emod_nonneg (a * (a % 30029 + 50021) + 70001 * (c + 1) + 11) (show (2147483629 : Int) ≠ 0 by decide)
  have b2 := Int.emod_lt_of_pos (a * (a % 30029 + 50021) + 70001 * (c + 1) + 11) (show (0 : Int) < 2147483629 by decide)
  generalize (a * (a % 30029 + 50021) + 70001 * (c + 1) + 11) % 2147483629 = y at e2 b1 b2
  have s12 := s1.trans s2
  have p2 : Bag S2 n := ⟨y, b, c + 1, e2, b1, b2⟩
  walk_at "dd"
  refine i_two (fun h0 => ?_) fun h0 => ?_
  · have hd : CDivW b m := dv2 hm hm2
    walk_at "dd"
    intro S3 e3 s3
    walk_at "dd"
    exact q _ S3 (Int.emod_nonneg b (by omega)) (Int.emod_lt_of_pos b hm) ⟨y, b / m, c + 1, e3, b1, b2⟩ (s12.trans s3)
  · walk_at "dd"
    exact q _ S2 (Int.emod_nonneg _ (by omega)) (Int.emod_lt_of_pos _ hm) p2 s12
theorem ok_cell (T : Tx K mg) {ns : List Int} {p : Nat} (hl : ns.length ≤ 63) (hp : p ≤ 63) (q : ∀ v : Int, Q (.v (.int v)) S) : sFun (bs P w K mg base) 1 (.ref (He.ga K "_law_cell")) [] [.lsk (ns.map .int), .int p] [] S Ex Q := by
  refine' call_d (B := bs P w K mg base) 0 (Classical.choose_spec T.d_law_cell) sc_law_cell rfl (bm_all (ps := ["_law_script", "_law_k"]) (Classical.choose_spec T.d_law_cell) (fun _ _ _ _ _ _ us hl => match us, hl with | [_, _], _ => rfl)) (dss_cons (ds_if (dt_cmp (dv 1) (de_callB (id := "len") rfl T.f_len (by decide +kernel) (da_cons (dv 0) da_nil))) (dss_one (ds_ret (de_callT (T := "int") rfl T.f_int (by decide +kernel) (da_cons (de_ix (dv 0) (dv 1) (fun _ _ => rfl)) da_nil)))) dss_nil) (dss_cons (dst 2 (de_bin (de_bin de_int (de_bin (de_bin (de_bin (dv 1) (dv 1)) (de_bin de_int (dv 1))) de_int)) de_int)) (dss_cons (ds_for rfl rfl (di_val (de_sl (dv 0) do_no (do_some de_int))) (dgn 3) (dss_one (dst 2 (de_bin (de_bin (de_bin (dv 2) de_int) (de_callT (T := "int") rfl T.f_int (by decide +kernel) (da_cons (dv 3) da_nil))) de_int)))) (dss_one (ds_ret (dv 2)))))) ⟨rfl, rfl⟩ ?st ?_
  case st => walk_at "start"
  walk_at "dd"
  refine c_lenX ?_
  rw [List.length_map]
  walk_at "dd"
  refine i_two (fun h0 => ?_) fun h0 => ?_
  · have hp2 : p < ns.length := by omega
    walk_at "dd"
    refine s_ixX (d := .int (ns.getD p 0)) ?_ ?_
    · refine L2.atI_nat ?_
      rw [List.getElem?_map, List.getD_eq_getElem?_getD, List.getElem?_eq_getElem hp2] <;> rfl
    walk_at "dd"
    exact q _
  · have b0 : (0 : Int) ≤ (p : Int) * p := Int.mul_nonneg (by omega) (by omega)
    have b1 : (p : Int) * p ≤ 63 * 63 := Int.mul_le_mul (by omega) (by omega) (by omega) (by decide)
    walk_at "dd"
    refine s_slX (.inl ?_)
    have ci : ∀ x ∈ cutD (ns.map D.int) none (some 4), ∃ i, x = .int i := fun x hx => by
      obtain ⟨i, _, e⟩ := List.mem_map.mp (List.mem_of_mem_drop (List.mem_of_mem_take hx))
      exact ⟨i, e.symm⟩
    generalize cutD (ns.map D.int) none (some 4) = xs at ci
    walk_at "dd"
    refine loop_inv (fun i ρ S' => S' = S ∧ ∃ (c : Int) (x3 : Sl), 0 ≤ c ∧ c < 2 ^ 63 ∧ ρ = [.sh (.lsk (ns.map .int)), .sh (.int p), .sh (.int c), x3]) ⟨rfl, _, _, Int.emod_nonneg _ (by decide), ?_, rfl⟩ ?_ ?_
    · have := Int.emod_lt_of_pos (86243 * ((p : Int) * p + 29 * p + 3)) (show (0 : Int) < 2147483629 by decide)
      omega
    · rintro i x ρ S' Nx hx ⟨rfl, c, x3, c0, c1, rfl⟩ hN
      obtain ⟨j, rfl⟩ := ci x (List.mem_of_getElem? hx)
      walk_at "dd"
      refine hN _ _ ⟨rfl, _, _, Int.emod_nonneg _ (by decide), ?_, rfl⟩
      have := Int.emod_lt_of_pos (c * 30011 + j) (show (0 : Int) < 2147483629 by decide)
      omega
    · rintro ρ S' ⟨rfl, c, x3, c0, c1, rfl⟩
      walk_at "dd"
      exact q _
theorem ok_bag (T : Tx K mg) {v : Int} (q : ∀ S' : Sto, Bag S' S.length → (∀ i, i < S.length → S'[i]? = S[i]?) → Q (.v (.ptr S.length)) S') : sFun (bs P w K mg base) 1 (.ref (He.ga K "_law_bag")) [] [.int v] [] S Ex Q := by
  refine' call_d (B := bs P w K mg base) 0 (Classical.choose_spec T.d_law_bag) sc_law_bag rfl (bm_all (ps := ["_law_cell_here"]) (Classical.choose_spec T.d_law_bag) (fun _ _ _ _ _ _ us hl => match us, hl with | [_], _ => rfl)) (dss_cons (dst 1 (de_if (DW.dt (dw_or (dt_cmp (dv 0) de_int) (dw_or1 (dt_cmp (dv 0) (de_bin de_int de_int))))) (de_callB (id := "abs") rfl T.f_abs (by decide +kernel) (da_cons (de_callT (T := "int") rfl T.f_int (by decide +kernel) (da_cons (dv 0) da_nil)) da_nil)) de_int)) (dss_one (ds_ret (de_lstP (da_cons (de_bin (de_callT (T := "int") rfl T.f_int (by decide +kernel) (da_cons (dv 0) da_nil)) de_int) (da_cons (dv 1) (da_cons de_int da_nil))))))) ⟨rfl, rfl⟩ ?st ?_
  case st => walk_at "start"
  have m1 := Int.emod_nonneg v (show (2147483629 : Int) ≠ 0 by decide)
  have m2 := Int.emod_lt_of_pos v (show (0 : Int) < 2147483629 by decide)
  have done : ∀ b : Int, Q (.v (.ptr S.length)) (S ++ [.lst [.int (v % 2147483629), .int b, .int 0]]) := fun b =>
    q _ ⟨_, b, 0, List.getElem?_concat_length, m1, m2⟩ fun i hi => List.getElem?_append_left hi
  walk_at "dd"
  refine i_two (fun h1 => ?_) fun h1 => ?_
  · walk_at "dd"
    exact done _
  · walk_at "dd"
    refine i_two (fun h2 => ?_) fun h2 => ?_
    · walk_at "dd"
      exact done _
    · walk_at "dd"
      exact done _
end Toy

set_option Elab.async false
set_option linter.all false
set_option maxRecDepth 100000
set_option maxHeartbeats 1000000
namespace Toy
open PySem PySem.Spec PyProof.Rows L2 My Dt SX Pln
variable {P : Program} {w : World} {K : PySem.W.Frag} {mg : Str → Option Value} {base : Heap} {S : Sto} {Ex : XS} {Q : QO}
theorem l_dash : Str.ofString "-" = SX.S [45] := by decide +kernel
theorem l_dot : Str.ofString "." = SX.S [46] := by decide +kernel
theorem l_nil : Str.ofString "" = SX.S [] := by decide +kernel
theorem l_space : Str.ofString " " = SX.S [32] := by decide +kernel
theorem l_figs : Str.ofString "01234567" = SX.S [48, 49, 50, 51, 52, 53, 54, 55] := by decide +kernel
theorem l_signs : Str.ofString "-01234567" = SX.S [45, 48, 49, 50, 51, 52, 53, 54, 55] := by decide +kernel
theorem atI_nat {α : Type} {xs : List α} {i : Nat} {x : α} (h : xs[i]? = some x) : L2.atI xs (i : Int) = some x := by
  have hi := (List.getElem?_eq_some_iff.mp h).1
  unfold L2.atI ixN
  rw [if_pos (by omega), if_pos (by omega)]
  show xs[((i : Nat) : Int).toNat]? = _
  rw [Int.toNat_natCast]
  exact h
theorem atI_getD {α : Type} {xs : List α} {i : Nat} (d : α) (h : i < xs.length) : L2.atI xs (i : Int) = some (xs.getD i d) := by
  refine atI_nat ?_
  rw [List.getD_eq_getElem?_getD, List.getElem?_eq_getElem h] <;> rfl
theorem atI_mapD {α β : Type} {xs : List α} {f : α → β} {i : Nat} (d : α) (h : i < xs.length) : L2.atI (xs.map f) (i : Int) = some (f (xs.getD i d)) := by
  refine atI_nat ?_
  rw [List.getElem?_map, List.getD_eq_getElem?_getD, List.getElem?_eq_getElem h] <;> rfl
/-- the last row's entries as far as they are made -/
structure Lrow (i M v : Nat) (en : List (Nat × Nat)) : Prop where
  l : en.length = i
  at_ : ∀ k, k < i → ∃ a, en.getD k (0, 0) = (a, a) ∧ a ≤ v
  mono : ∀ k, k + 1 < i → (en.getD k (0, 0)).1 ≤ (en.getD (k + 1) (0, 0)).1
  top : v + 1 ≤ M
theorem Lrow.put {i M v u : Nat} {en : List (Nat × Nat)} (h : Lrow i M v en) (hu : v ≤ u) (hM : u + 1 ≤ M) : Lrow (i + 1) M u (en ++ [(u, u)]) := by
  have l := h.l
  refine ⟨by rw [List.length_append, l] <;> rfl, fun k hk => ?_, fun k hk => ?_, hM⟩
  · rcases Nat.lt_or_ge k i with z | z
    · rw [gA (by omega)]
      obtain ⟨a, e, ha⟩ := h.at_ k z
      exact ⟨a, e, by omega⟩
    · rw [gB (by omega)]
      exact ⟨u, rfl, Nat.le_refl _⟩
  · rcases Nat.lt_or_ge (k + 1) i with z | z
    · rw [gA (by omega), gA (by omega)]
      exact h.mono k z
    · rw [gA (by omega), gB (by omega)]
      obtain ⟨a, e, ha⟩ := h.at_ k (by omega)
      rw [e]
      exact Nat.le_trans ha hu
theorem joinL_nil : ∀ ls : List (List Nat), TL.joinL [] ls = ls.flatten
  | [] => rfl
  | [p] => by simp [TL.joinL]
  | p :: q :: r => by
    show p ++ ([] ++ TL.joinL [] (q :: r)) = _
    rw [joinL_nil (q :: r)] <;> simp
theorem flat_one : ∀ l : List Nat, (l.map fun c => [c]).flatten = l
  | [] => rfl
  | c :: l => by
    rw [List.map_cons, List.flatten_cons, flat_one l] <;> rfl
theorem sum_one (l : List Nat) : ((l.map fun c => [c]).map (·.length)).sum = l.length := by
  induction l with
  | nil => rfl
  | cons c l ih =>
    rw [List.map_cons, List.map_cons, List.sum_cons, ih, List.length_cons]
    show 1 + l.length = l.length + 1
    omega
theorem tx_one (l : List Nat) : l.map (fun c => tx [c]) = (l.map fun c => [c]).map tx := by
  rw [List.map_map] <;> rfl
/-- "".join of signs -/
theorem m_join1 {B : Bs} {k : Nat} {l : List Nat} {o : O} (h : SqO S o (l.map fun c => tx [c])) (hz : l.length ≤ 1000) (q : Q (.v (tx l)) S) : sCall B k (.builtin "str.join") [] [.v (tx []), o] [] S Ex Q := by
  rw [tx_one] at h
  refine m_join h ?_ ?_
  · rw [sum_one, List.length_map]
    show l.length + l.length * 0 ≤ _
    omega
  · rw [joinL_nil, flat_one]
    exact q
theorem sgn_tx (l : List Nat) : sgnD (SX.S l) = l.map fun c => tx [c] := rfl
/-- rows as texts are short -/
theorem sum_rows : ∀ (ms : List (List Nat)) (b : Nat), (∀ r ∈ ms, r.length ≤ b) → (ms.map (·.length)).sum ≤ b * ms.length
  | [], b, _ => Nat.zero_le _
  | r :: ms, b, h => by
    have h1 := h r List.mem_cons_self
    have h2 := sum_rows ms b fun q hq => h q (List.mem_cons_of_mem _ hq)
    rw [List.map_cons, List.sum_cons, List.length_cons, Nat.mul_succ]
    omega
theorem valD_of {kvs : List (Key × D)} {k : Key} : ∀ {i : Nat} {d : D}, (kvs.map (·.1)).Nodup → kvs[i]? = some (k, d) → valD kvs k = some d := by
  intro i d hn h
  unfold valD
  have hm := List.mem_of_getElem? h
  induction kvs generalizing i with
  | nil => cases hm
  | cons kv kvs ih =>
    rw [List.find?_cons]
    by_cases e : kv.1 = k
    · rw [decide_eq_true e]
      rcases List.mem_cons.mp hm with z | z
      · rw [← z] <;> rfl
      · exfalso
        have := (List.nodup_cons.mp hn).1
        exact this (List.mem_map.mpr ⟨_, z, e.symm⟩)
    · rw [decide_eq_false e]
      rcases List.mem_cons.mp hm with z | z
      · exact absurd (by rw [← z]) e
      · obtain ⟨j, hj⟩ := List.getElem?_of_mem z
        exact ih (List.nodup_cons.mp hn).2 hj z
theorem valD_no {kvs : List (Key × D)} {k : Key} (h : k ∉ kvs.map (·.1)) : valD kvs k = none := by
  unfold valD
  have e : kvs.find? (fun kv => decide (kv.1 = k)) = none := List.find?_eq_none.mpr fun kv hkv z => h (List.mem_map.mpr ⟨kv, hkv, of_decide_eq_true z⟩)
  rw [e] <;> rfl
/-- the classes' places -/
def places (ks : List Nat) : List (Key × D) := (List.range ks.length).map fun i => (.inr (SX.S [48 + ks.getD i 0]), .int (i : Nat))
theorem places_nd {ks : List Nat} (p : ks.Pairwise (· < ·)) : ((places ks).map (·.1)).Nodup := by
  unfold places
  rw [List.map_map]
  refine List.Pairwise.map _ (R := fun a b => a < b ∧ b < ks.length) ?_ ?_
  · intro a b h e
    have e2 := S_inj (Sum.inr.inj e)
    have e3 : ks.getD a 0 = ks.getD b 0 := by
      have := (List.cons.inj e2).1
      omega
    have ha : a < ks.length := by omega
    rw [List.getD_eq_getElem?_getD, List.getD_eq_getElem?_getD, List.getElem?_eq_getElem ha, List.getElem?_eq_getElem h.2] at e3
    have := List.pairwise_iff_getElem.mp p a b ha h.2 h.1
    simp at e3
    omega
  · exact (List.pairwise_lt_range (n := ks.length)).imp_of_mem fun {a b} ha hb h => ⟨h, List.mem_range.mp hb⟩
/-! ### the drawn rows -/
end Toy

set_option Elab.async false
set_option linter.all false
set_option maxRecDepth 100000
set_option maxHeartbeats 8000000
namespace Toy
open PySem PySem.Spec PyProof.Rows L2 My Dt SX Pln
local macro_rules | `(tactic| walk_at "rg") => `(tactic| first
  | omega
  | ((refine And.intro ?_ (And.intro ?_ (And.intro ?_ ?_))) <;> omega))
local macro_rules | `(tactic| walk_at "ls") => `(tactic| first
  | with_reducible exact ls_v
  | with_reducible exact ls_b
  | ((with_reducible refine' ls_p ?hlp); (case hlp => with_reducible assumption)))
local macro_rules | `(tactic| walk_at "start") => `(tactic| ((simp only [startM, startS, List.map_cons, List.map_nil, List.length_cons, List.length_nil, List.cons_append, List.nil_append, Nat.reduceAdd, Nat.reduceSub, List.replicate_succ, List.replicate_zero]); exact rfl))
local macro_rules | `(tactic| walk_at "set") => `(tactic| first
  | ((dsimp only [Int.reduceToNat, List.set_cons_zero, List.set_cons_succ, VO.sl]); done)
  | ((dsimp only [Int.reduceToNat, List.set_cons_zero, List.set_cons_succ, VO.sl]); exact rfl)
  | exact rfl)
local macro_rules | `(tactic| walk_at "sz") => `(tactic| first
  | exact sz_of (Nat.le_of_ble_eq_true rfl)
  | (apply sz_of; simp only [List.length_cons, List.length_nil, List.length_append, List.length_map]; omega))
local macro_rules | `(tactic| walk_at "side") => `(tactic| first
  | with_reducible assumption
  | omega
  | exact ml (by omega) (by omega)
  | exact mr (by omega) (by omega)
  | exact dv (by omega) (by omega)
  | exact Bd.mulOk (by with_reducible assumption) (by with_reducible assumption) (by decide) (by decide) (by decide)
  | exact Bd.div (by with_reducible assumption) (by omega) (by decide) (by decide)
  | (show (0 : Int) < _; omega)
  | exact ⟨by decide, by decide, by decide⟩
  | decide
  | exact rfl)
local macro_rules | `(tactic| walk_at "st") => `(tactic| first
  | with_reducible refine q_seq ?_
  | with_reducible refine q_end ?_
  | with_reducible refine q_nil ?_
  | with_reducible refine q_asg ?_
  | with_reducible refine q_ret ?_
  | with_reducible refine q_if ?_
  | with_reducible refine q_expr ?_
  | with_reducible refine q_retN ?_
  | with_reducible refine q_sub ?_
  | with_reducible refine q_for ?_
  | with_reducible refine q_par ?_
  | with_reducible refine q_par3 ?_
  | with_reducible refine q_parV ?_
  | with_reducible refine q_parV3 ?_
  | with_reducible refine q_asgF ?_
  | with_reducible refine q_asgC ?_
  | ((with_reducible refine' q_frz ?ef ?_); (case ef => exact rfl))
  | ((with_reducible refine' q_app ?ea ?eb ?_); (case ea => exact rfl); (case eb => walk_at "slen"))
  | with_reducible refine q_brk ?_
  | with_reducible refine q_cnt ?_
  | with_reducible refine q_fldS ?_
  | with_reducible refine q_fldP ?_
  | with_reducible refine q_raise ?_
  | with_reducible refine q_try ?_)
local macro_rules | `(tactic| walk_at "slen") => `(tactic| first
  | with_reducible assumption
  | ((rw [sizeLine_eq]); (simp only [List.length_cons, List.length_nil, List.length_append, List.length_map]); omega))
local macro_rules | `(tactic| walk_at "sm") => `(tactic| first
  | with_reducible refine s_add ?_
  | with_reducible refine s_sub ?_
  | ((with_reducible refine' s_mul ?hm ?_); (case hm => walk_at "side"))
  | ((with_reducible refine' s_fdiv ?hm ?_); (case hm => walk_at "side"))
  | ((with_reducible refine' s_mod ?hm ?_); (case hm => walk_at "side"))
  | with_reducible refine s_neg ?_
  | ((with_reducible refine' s_pow ?hm ?_); (case hm => walk_at "side"))
  | ((with_reducible refine' s_ixL ?hl ?he ?_); (case hl => walk_at "ls"); (case he => exact rfl))
  | ((with_reducible refine' s_ixT ?he ?_); (case he => exact rfl))
  | ((with_reducible refine' set_L2 ?ha ?hb ?hc ?_); (case ha => with_reducible assumption); (case hb => exact rfl); (case hc => walk_at "set"))
  | with_reducible refine s_addB ?_
  | with_reducible refine s_lt ?_
  | with_reducible refine s_le ?_
  | with_reducible refine s_gt ?_
  | with_reducible refine s_ge ?_
  | with_reducible refine s_eq ?_
  | with_reducible refine s_ne ?_
  | with_reducible refine s_eqS ?_
  | with_reducible refine s_neS ?_
  | with_reducible refine s_isN ?_
  | with_reducible refine s_isNotN ?_
  | with_reducible refine t_bl ?_)
local macro_rules | `(tactic| walk_at "cl") => `(tactic| first
  | with_reducible refine c_int ?_
  | with_reducible refine c_intB ?_
  | with_reducible refine c_abs ?_
  | ((with_reducible refine' c_max ?hm ?_); (case hm => exact rfl))
  | ((with_reducible refine' c_min ?hm ?_); (case hm => exact rfl))
  | ((with_reducible refine' c_divmod ?hm ?_); (case hm => walk_at "side"))
  | ((with_reducible refine' c_len ?hm ?_); (case hm => walk_at "sq"))
  | ((with_reducible refine' c_list ?hm ?_); (case hm => walk_at "sq"))
  | ((with_reducible refine' c_tuple ?hm ?_); (case hm => walk_at "sq")))
local macro_rules | `(tactic| walk_at "sq") => `(tactic| first
  | exact sqL
  | exact sqT
  | exact sqB
  | exact sqP (by with_reducible assumption))
local macro_rules | `(tactic| walk_at "v") => `(tactic| first
  | ((with_reducible refine' v_sh ?ev ?_); (case ev => exact rfl))
  | ((with_reducible refine' v_ol ?ev ?_); (case ev => exact rfl))
  | ((with_reducible refine' v_slf ?ev ?_); (case ev => exact rfl))
  | with_reducible refine q_val ?_
  | ((with_reducible refine' q_walk ?ew ?_); (case ew => exact rfl))
  | ((with_reducible refine' q_rng1 ?ej ?ek ?_); (case ej => walk_at "rg"); (case ek => walk_at "rg"))
  | ((with_reducible refine' q_rng2 ?ej ?_); (case ej => walk_at "rg"))
  | with_reducible refine q_rngL ?_
  | with_reducible refine q_solc ?_
  | with_reducible refine q_sol0 ?_
  | ((with_reducible refine' q_gname ?eg ?_); (case eg => walk_at "set"))
  | ((with_reducible refine' n_set ?eg ?_); (case eg => walk_at "set"))
  | ((with_reducible refine' n_set2 ?eg ?_); (case eg => walk_at "set"))
  | ((with_reducible refine' n_set3 ?eg ?_); (case eg => walk_at "set"))
  | with_reducible refine q_two ?_
  | with_reducible refine q_three ?_
  | with_reducible refine q_vv ?_
  | with_reducible refine q_isS ?_
  | with_reducible refine q_isL ?_
  | with_reducible refine q_twoV ?_
  | with_reducible refine q_threeV ?_
  | with_reducible refine q_bl ?_
  | with_reducible refine q_oint ?_
  | ((with_reducible refine' q_gtup ?el ?_); (case el => exact rfl))
  | with_reducible refine q_gcons ?_
  | with_reducible refine q_gnil ?_
  | with_reducible refine i_t ?_
  | with_reducible refine i_f ?_
  | with_reducible refine i_nt ?_
  | with_reducible refine i_nf ?_
  | ((with_reducible refine' n_t ?en ?_); (case en => exact rfl))
  | ((with_reducible refine' n_f ?en ?_); (case en => exact rfl))
  | ((with_reducible refine' nn_t ?en ?_); (case en => exact rfl))
  | ((with_reducible refine' nn_f ?en ?_); (case en => exact rfl))
  | with_reducible refine And.intro (by walk_at "sz") ?_)
local macro_rules | `(tactic| walk_at "d") => `(tactic| first
  | walk_at "v"
  | walk_at "st"
  | walk_at "sm"
  | walk_at "cl"
  | walk_at "at")
local macro_rules | `(tactic| walk_at "dd") => `(tactic| repeat walk_at "d")
local macro_rules | `(tactic| walk_at "tx") => `(tactic| simp only [l_dash, l_dot, l_nil, l_space, l_figs, l_signs])

variable {P : Program} {w : World} {K : PySem.W.Frag} {mg : Str → Option Value} {base : Heap} {S : Sto} {Ex : XS} {Q : QO}
theorem sIx_nat (n d i : Nat) : HT.sIx n d (some (i : Int)) = min i n := by
  unfold HT.sIx
  show (if (i : Int) < 0 then _ else min (i : Int).toNat n) = _
  rw [if_neg (by omega), Int.toNat_natCast]
theorem cut_two {l : List Nat} {a b : Nat} : L2.cutS (SX.S l) (some (a : Int)) (some (b : Int)) = SX.S ((l.drop (min a l.length)).take (min b l.length - min a l.length)) := by
  unfold L2.cutS
  rw [sIx_nat, sIx_nat, S_len]
theorem ent_cut {b : List Nat} {k : Nat} : decide (45 ∈ ((b.drop (min (k - 1) b.length)).take (min (k + 1) b.length - min (k - 1) b.length))) = ent b k := by
  unfold ent
  rw [Bool.eq_iff_iff, decide_eq_true_eq, Bool.or_eq_true, Bool.and_eq_true, decide_eq_true_eq, beq_iff_eq, beq_iff_eq]
  constructor
  · intro h
    obtain ⟨i, hi, e⟩ := List.getElem_of_mem h
    rw [List.length_take, List.length_drop] at hi
    rw [List.getElem_take, List.getElem_drop] at e
    have z : b[min (k - 1) b.length + i]? = some 45 := by
      rw [List.getElem?_eq_getElem (by omega), e]
    rcases (show min (k - 1) b.length + i = k ∨ (0 < k ∧ min (k - 1) b.length + i = k - 1) by omega) with y | ⟨y1, y⟩
    · rw [y] at z
      exact .inr z
    · rw [y] at z
      exact .inl ⟨y1, z⟩
  · intro h
    have key : ∀ j, b[j]? = some 45 → k - 1 ≤ j → j ≤ k → 45 ∈ ((b.drop (min (k - 1) b.length)).take (min (k + 1) b.length - min (k - 1) b.length)) := fun j e h1 h2 => by
      have hj := (List.getElem?_eq_some_iff.mp e).1
      refine List.mem_of_getElem? (i := j - (k - 1)) ?_
      rw [List.getElem?_take, if_pos (by omega), List.getElem?_drop, show min (k - 1) b.length + (j - (k - 1)) = j by omega]
      exact e
    rcases h with ⟨h1, h2⟩ | h
    · exact key _ h2 (Nat.le_refl _) (by omega)
    · exact key _ h (by omega) (Nat.le_refl _)
theorem ok_is_entered (T : Tx K mg) {b : List Nat} {k : Nat} (hb : b.length ≤ 30) (hk : k ≤ 30) (q : Q (.v (.bl (ent b k))) S) : sFun (bs P w K mg base) 1 (.ref (He.ga K "is_entered")) [] [tx b, .int k] [] S Ex Q := by
  refine' call_d (B := bs P w K mg base) 0 (Classical.choose_spec T.d_is_entered) sc_is_entered rfl (bm_all (ps := ["before", "found"]) (Classical.choose_spec T.d_is_entered) (fun _ _ _ _ _ _ us hl => match us, hl with | [_, _], _ => rfl)) (dss_one (ds_ret (de_cmp de_str (de_sl (dv 0) (do_some (de_callB (id := "max") rfl T.f_max (by decide +kernel) (da_cons de_int (da_cons (de_bin (dv 1) de_int) da_nil)))) (do_some (de_bin (dv 1) de_int)))))) ⟨rfl, rfl⟩ ?st ?_
  case st => walk_at "start"
  walk_at "tx"
  walk_at "dd"
  have e1 : (if (k : Int) - 1 > 0 then (k : Int) - 1 else 0) = ((k - 1 : Nat) : Int) := by split <;> omega
  rw [e1]
  refine s_slS (by rw [S_len, sizeLine_eq]; omega) ?_
  rw [show (k : Int) + 1 = ((k + 1 : Nat) : Int) by omega, cut_two]
  refine s_inT ?_
  rw [ent_cut]
  walk_at "dd"
  exact q
theorem filt_rng (p : Nat → Bool) (n : Nat) : ((rngD 0 n).filter (fun d => match d with | .int k => p k.toNat | _ => false)).map id = ((List.range n).filter p).map fun k => .int (k : Nat) := by
  rw [List.map_id, rngD, List.filter_map]
  have e : ((fun d => match d with | D.int k => p k.toNat | _ => false) ∘ fun (i : Nat) => D.int (0 + (i : Nat))) = p := by
    funext i
    show p ((0 : Int) + (i : Nat)).toNat = p i
    rw [show ((0 : Int) + (i : Nat)).toNat = i by omega]
  rw [e]
  refine List.map_congr_left fun i _ => ?_
  show D.int (0 + (i : Nat)) = _
  rw [Int.zero_add]
theorem ok_count_classes (T : Tx K mg) {rs : List (List Nat)} (hm : rs.length ≤ 21) (hl : ∀ r ∈ rs, r.length ≤ 21) {o : D} (ho : SqO S (.v o) (rs.map tx)) (q : Q (.v (.int (cls rs).length)) S) : sFun (bs P w K mg base) 2 (.ref (He.ga K "count_classes")) [] [o] [] S Ex Q := by
  refine' call_d (B := bs P w K mg base) 1 (Classical.choose_spec T.d_count_classes) sc_count_classes rfl (bm_all (ps := ["rows"]) (Classical.choose_spec T.d_count_classes) (fun _ _ _ _ _ _ us hl => match us, hl with | [_], _ => rfl)) (dss_cons (dst 1 (de_bm PySem.F.plainAttrs_str PySem.F.slot_str_join PySem.F.type_str_join de_str (da_cons (dv 0) da_nil))) (dss_one (ds_ret (de_callB (id := "len") rfl T.f_len (by decide +kernel) (da_cons (DF.de (df_lc (own := [("number", 2)]) rfl (by decide) (di_range1 rfl T.f_range (da_cons (de_gint rfl T.c_CLASSES) da_nil)) (blkOk_by (N := ["rows", "signs", "number"]) (sc := defScope s_count_classes) (by decide +kernel)) (dgn 2) (dts_one (dt_cmp (de_callT (T := "str") rfl T.f_str (by decide +kernel) (da_cons (dv 2) da_nil)) (dv 1))) (dv 2))) da_nil))))) ⟨rfl, rfl⟩ ?st ?_
  case st => walk_at "start"
  walk_at "tx"
  walk_at "dd"
  have hs := sum_rows rs 21 hl
  refine m_join ho (by show _ + _ * 0 ≤ _; omega) ?_
  rw [joinL_nil]
  walk_at "dd"
  refine lc_pure (fun d => match d with | .int n => decide (48 + n.toNat ∈ rs.flatten) | _ => false) id (by rw [rngD_len]; omega) (fun z hz X Y h1 h2 => ?_) ?_
  · obtain ⟨k, hk, rfl⟩ := List.mem_map.mp hz
    have hk := List.mem_range.mp hk
    replace hk : k < 8 := hk
    replace h1 : decide (48 + ((0 : Int) + (k : Nat)).toNat ∈ rs.flatten) = true → X (.v (.int (0 + (k : Nat)))) S := h1
    replace h2 : decide (48 + ((0 : Int) + (k : Nat)).toNat ∈ rs.flatten) = false → Y S := h2
    rw [show ((0 : Int) + (k : Nat)).toNat = k by omega, Int.zero_add] at h1
    rw [show ((0 : Int) + (k : Nat)).toNat = k by omega] at h2
    rw [Int.zero_add]
    walk_at "dd"
    refine c_strF (n := k) (by omega) ?_
    walk_at "dd"
    refine s_inT ?_
    walk_at "dd"
    refine i_two (fun c => ?_) fun c => ?_
    · walk_at "dd"
      exact h1 (decide_eq_true c)
    · walk_at "dd"
      exact h2 (decide_eq_false c)
  have e := filt_rng (fun n => decide (48 + n ∈ rs.flatten)) 8
  rw [show Int.toNat 8 = 8 from rfl, e]
  walk_at "dd"
  rw [List.length_map]
  exact q
theorem sig_dec (c : Nat) : decide (c ∈ [45, 48, 49, 50, 51, 52, 53, 54, 55]) = isS c := by
  unfold isS
  rw [Bool.eq_iff_iff, decide_eq_true_eq]
  simp
  omega
theorem bl_eqv (b : Bool) : PyData.eqv (.bool b) (.bool b) = true := by cases b <;> decide +kernel
theorem ok_is_row (T : Tx K mg) {r b : List Nat} (hb : b.length ≤ 20) (hf : fit r b = true) (q : Q (.v (.bl true)) S) : sFun (bs P w K mg base) 2 (.ref (He.ga K "is_row")) [] [tx r, tx b] [] S Ex Q := by
  refine' call_d (B := bs P w K mg base) 1 (Classical.choose_spec T.d_is_row) sc_is_row rfl (bm_all (ps := ["row", "before"]) (Classical.choose_spec T.d_is_row) (fun _ _ _ _ _ _ us hl => match us, hl with | [_, _], _ => rfl)) (dss_cons (ds_if (DW.dt (dw_or (dt_not (dt_val (de_callB (id := "isinstance") rfl T.f_isinstance (by decide +kernel) (da_cons (dv 0) (da_cons (de_ty (n := "str") rfl T.f_str (by decide +kernel)) da_nil))))) (dw_or1 (dt_cmp (de_callB (id := "len") rfl T.f_len (by decide +kernel) (da_cons (dv 0) da_nil)) (de_bin (de_callB (id := "len") rfl T.f_len (by decide +kernel) (da_cons (dv 1) da_nil)) de_int))))) (dss_one (ds_ret de_bl)) dss_nil) (dss_cons (ds_for rfl rfl (di_range1 rfl T.f_range (da_cons (de_callB (id := "len") rfl T.f_len (by decide +kernel) (da_cons (dv 0) da_nil)) da_nil)) (dgn 2) (dss_cons (ds_if (dt_cmp (de_call rfl rfl ⟨T.g_is_entered, (Classical.choose_spec T.d_is_entered).kp⟩ (da_cons (dv 1) (da_cons (dv 2) da_nil))) (de_cmp (de_ix (dv 0) (dv 2) (fun _ _ => rfl)) (de_gstr rfl T.c_SIGNS))) (dss_one (ds_ret de_bl)) dss_nil) (dss_one (ds_if (DW.dt (dw_and (dt_cmp (de_ix (dv 0) (dv 2) (fun _ _ => rfl)) (de_gstr rfl T.c_SIGNS)) (dw_and1 (dt_cmp (de_ix (dv 0) (dv 2) (fun _ _ => rfl)) de_str)))) (dss_one (ds_ret de_bl)) dss_nil)))) (dss_one (ds_ret de_bl)))) ⟨rfl, rfl⟩ ?st ?_
  case st => walk_at "start"
  walk_at "tx"
  walk_at "dd"
  have hl : r.length = b.length + 1 := by
    unfold fit at hf
    rw [Bool.and_eq_true] at hf
    exact of_decide_eq_true hf.1
  have hk : ∀ k, k < r.length → ent b k = isS (r.getD k 0) ∧ (isS (r.getD k 0) = true ∨ r.getD k 0 = 46) := fun k hk => by
    unfold fit at hf
    rw [Bool.and_eq_true, List.all_eq_true] at hf
    have g := hf.2 k (List.mem_range.mpr hk)
    rw [Bool.and_eq_true, beq_iff_eq, Bool.or_eq_true, beq_iff_eq] at g
    exact g
  refine c_isi (tyK (T := "str") rfl) rfl T.i_SS ?_
  walk_at "dd"
  refine c_lenT (by omega) ?_
  walk_at "dd"
  refine c_lenT (by omega) ?_
  walk_at "dd"
  refine n_pos (by omega) ?_
  walk_at "dd"
  refine c_lenT (by omega) ?_
  walk_at "dd"
  refine loop_inv (fun i ρ S' => S' = S ∧ ∃ (x2 : Sl), ρ = [.sh (tx r), .sh (tx b), x2]) ⟨rfl, _, rfl⟩ ?_ ?_
  · rintro i x ρ S' Nx hx ⟨rfl, x2, rfl⟩ hN
    obtain ⟨hi, rfl⟩ := rngD_at hx
    have hi : i < r.length := by omega
    rw [Int.zero_add]
    obtain ⟨g1, g2⟩ := hk i hi
    have a3 : L2.atI r (i : Int) = some (r.getD i 0) := atI_getD 0 hi
    walk_at "dd"
    refine (ok_is_entered T (by omega) (by omega) ?_).mono (Nat.le_of_ble_eq_true rfl)
    walk_at "dd"
    refine s_ixTx (by omega) a3 ?_
    walk_at "dd"
    refine s_inT ?_
    rw [sig_dec, ← g1]
    refine s_neD (pdV rfl) (pdV rfl) rfl rfl ?_
    rw [bl_eqv]
    walk_at "dd"
    refine s_ixTx (by omega) a3 ?_
    walk_at "dd"
    refine s_notInT ?_
    rw [sig_dec]
    walk_at "dd"
    refine nb_two (fun c => ?_) fun c => ?_
    · walk_at "dd"
      exact hN _ _ ⟨rfl, _, rfl⟩
    · walk_at "dd"
      refine s_ixTx (by omega) a3 ?_
      walk_at "dd"
      refine n_pos (by
        rcases g2 with g2 | g2
        · rw [g2] at c
          cases c
        · rw [g2]) ?_
      walk_at "dd"
      exact hN _ _ ⟨rfl, _, rfl⟩
  · rintro ρ S' ⟨rfl, x2, rfl⟩
    walk_at "dd"
    exact q
theorem pds_ints : ∀ ns : List Int, pds (ns.map .int) = some (ns.map PyData.int)
  | [] => rfl
  | n :: ns => by
    show (match pd (.int n), pds (ns.map .int) with | some d, some ds => some (d :: ds) | _, _ => none) = _
    rw [pds_ints ns] <;> rfl
theorem rng_ints (n : Nat) : rngD 0 n = ((List.range n).map fun (i : Nat) => (0 : Int) + (i : Nat)).map .int := by
  rw [List.map_map] <;> rfl
theorem ok_check_rows (T : Tx K mg) {rs : List (List Nat)} (h : Pln.Ok rs) (q : Q (.v .non) S) : sFun (bs P w K mg base) 3 (.ref (He.ga K "check_rows")) [] [.tup (rs.map tx)] [] S Ex Q := by
  refine' call_d (B := bs P w K mg base) 2 (Classical.choose_spec T.d_check_rows) sc_check_rows rfl (bm_all (ps := ["rows"]) (Classical.choose_spec T.d_check_rows) (fun _ _ _ _ _ _ us hl => match us, hl with | [_], _ => rfl)) (dss_cons (ds_if (dt_not (dt_chain de_int (de_callB (id := "len") rfl T.f_len (by decide +kernel) (da_cons (dv 0) da_nil)) (de_bin (de_gint rfl T.c_LONGEST) de_int))) (dss_one ds_never) dss_nil) (dss_cons (ds_if (DW.dt (dw_or (dt_not (dt_val (de_callB (id := "isinstance") rfl T.f_isinstance (by decide +kernel) (da_cons (de_ix (dv 0) de_int (fun _ _ => rfl)) (da_cons (de_ty (n := "str") rfl T.f_str (by decide +kernel)) da_nil))))) (dw_or1 (dt_cmp (de_ix (dv 0) de_int (fun _ _ => rfl)) de_str)))) (dss_one ds_never) dss_nil) (dss_cons (ds_for rfl rfl (di_range2 rfl T.f_range (da_cons de_int (da_cons (de_callB (id := "len") rfl T.f_len (by decide +kernel) (da_cons (dv 0) da_nil)) da_nil))) (dgn 1) (dss_one (ds_if (dt_not (dt_val (de_call rfl rfl ⟨T.g_is_row, (Classical.choose_spec T.d_is_row).kp⟩ (da_cons (de_ix (dv 0) (dv 1) (fun _ _ => rfl)) (da_cons (de_ix (dv 0) (de_bin (dv 1) de_int) (fun _ _ => rfl)) da_nil))))) (dss_one ds_never) dss_nil))) (dss_cons (dst 2 (de_ix (dv 0) (de_bin (de_callB (id := "len") rfl T.f_len (by decide +kernel) (da_cons (dv 0) da_nil)) de_int) (fun _ _ => rfl))) (dss_cons (ds_if (DW.dt (dw_or (dt_cmp de_str (dv 2)) (dw_or1 (dt_cmp (dv 2) (de_bin de_str (de_callB (id := "len") rfl T.f_len (by decide +kernel) (da_cons (dv 2) da_nil))))))) (dss_one ds_never) dss_nil) (dss_cons (dst 3 (de_call rfl rfl ⟨T.g_count_classes, (Classical.choose_spec T.d_count_classes).kp⟩ (da_cons (dv 0) da_nil))) (dss_one (ds_if (DW.dt (dw_or (dt_cmp (dv 3) de_int) (dw_or1 (dt_cmp (DF.de (df_lc (own := [("number", 4)]) rfl (by decide) (di_range1 rfl T.f_range (da_cons (de_gint rfl T.c_CLASSES) da_nil)) (blkOk_by (N := ["rows", "index", "last", "many", "number"]) (sc := defScope s_check_rows) (by decide +kernel)) (dgn 4) (dts_one (dt_cmp (de_callT (T := "str") rfl T.f_str (by decide +kernel) (da_cons (dv 4) da_nil)) (de_bm PySem.F.plainAttrs_str PySem.F.slot_str_join PySem.F.type_str_join de_str (da_cons (dv 0) da_nil)))) (dv 4))) (de_lstRg rfl rfl T.f_list rfl T.f_range (dv 3)))))) (dss_one ds_never) dss_nil)))))))) ⟨rfl, rfl⟩ ?st ?_
  case st => walk_at "start"
  walk_at "tx"
  walk_at "dd"
  have two := h.two
  have most := h.most
  have hl := h.len
  rw [List.length_map]
  rw [if_pos (decide_eq_true (by omega))]
  walk_at "dd"
  rw [show decide ((rs.length : Int) ≤ (20 : Int) + 1) = true from decide_eq_true (by omega)]
  walk_at "dd"
  have at_ : ∀ i, i < rs.length → L2.atI (rs.map tx) (i : Int) = some (tx (rs.getD i [])) := fun i hi => atI_mapD [] hi
  have a0 := at_ 0 (by omega)
  rw [h.one] at a0
  refine s_ixT a0 ?_
  refine c_isi (tyK (T := "str") rfl) rfl T.i_SS ?_
  walk_at "dd"
  refine s_ixT a0 ?_
  walk_at "dd"
  refine n_pos rfl ?_
  walk_at "dd"
  refine q_rng2 (by rw [List.length_map]; walk_at "rg") ?_
  walk_at "dd"
  refine loop_inv (fun i ρ S' => S' = S ∧ ∃ (x2 : Sl), ρ = [.sh (.tup (rs.map tx)), x2, .un, .un, .un]) ⟨rfl, _, rfl⟩ ?_ ?_
  · rintro i x ρ S' Nx hx ⟨rfl, x2, rfl⟩ hN
    obtain ⟨hi, rfl⟩ := rngD_at hx
    have hi : i + 1 < rs.length := by rw [List.length_map] at hi; omega
    rw [show (1 : Int) + (i : Nat) = ((i + 1 : Nat) : Int) by omega]
    walk_at "dd"
    refine s_ixT (at_ (i + 1) hi) ?_
    walk_at "dd"
    refine s_ixT (by rw [show ((i + 1 : Nat) : Int) - 1 = (i : Nat) by omega]; exact at_ i (by omega)) ?_
    have lb := hl i (by omega)
    walk_at "dd"
    refine (ok_is_row T (by omega) (h.fits i hi) ?_).mono (Nat.le_of_ble_eq_true rfl)
    walk_at "dd"
    exact hN _ _ ⟨rfl, _, rfl⟩
  · rintro ρ S' ⟨rfl, x2, rfl⟩
    walk_at "dd"
    have ends := h.ends
    have al := at_ (rs.length - 1) (by omega)
    have ll := hl (rs.length - 1) (by omega)
    obtain ⟨c0, hc0, hn0⟩ := h.some_
    generalize rs.getD (rs.length - 1) [] = last at ends al ll hc0
    rw [List.length_map]
    refine s_ixT (by rw [show (rs.length : Int) - 1 = ((rs.length - 1 : Nat) : Int) by omega]; exact al) ?_
    walk_at "dd"
    refine s_inT ?_
    rw [decide_eq_false ends]
    walk_at "dd"
    refine c_lenT (by omega) ?_
    refine s_mulT (by omega) (by omega) ?_
    refine s_eqT ?_
    walk_at "dd"
    refine i_neg (fun z => ?_) ?_
    · rw [z] at hc0
      exact hn0 (List.eq_of_mem_replicate hc0)
    have rl : ∀ r ∈ rs, r.length ≤ 21 := fun r hr => by
      obtain ⟨i, hi, e⟩ := List.getElem_of_mem hr
      have := hl i hi
      rw [List.getD_eq_getElem?_getD, List.getElem?_eq_getElem hi] at this
      replace this : rs[i].length = i + 1 := this
      rw [e] at this
      omega
    walk_at "dd"
    refine ok_count_classes T most rl sqT ?_
    walk_at "dd"
    have many := h.many
    have hs := sum_rows rs 21 rl
    have r3 : ∀ (ρ : List Sl) (X : O → Sto → Prop), True := fun _ _ => trivial
    refine i_neg (by omega) ?_
    walk_at "dd"
    refine lc_pure (fun d => match d with | .int n => decide (48 + n.toNat ∈ rs.flatten) | _ => false) id (by rw [rngD_len]; omega) (fun z hz X Y h1 h2 => ?_) ?_
    · obtain ⟨k, hk, rfl⟩ := List.mem_map.mp hz
      have hk := List.mem_range.mp hk
      replace hk : k < 8 := hk
      replace h1 : decide (48 + ((0 : Int) + (k : Nat)).toNat ∈ rs.flatten) = true → X (.v (.int (0 + (k : Nat)))) S' := h1
      replace h2 : decide (48 + ((0 : Int) + (k : Nat)).toNat ∈ rs.flatten) = false → Y S' := h2
      rw [show ((0 : Int) + (k : Nat)).toNat = k by omega, Int.zero_add] at h1
      rw [show ((0 : Int) + (k : Nat)).toNat = k by omega] at h2
      rw [Int.zero_add]
      walk_at "dd"
      refine c_strF (n := k) (by omega) ?_
      walk_at "dd"
      refine m_join sqT (by show _ + _ * 0 ≤ _; omega) ?_
      rw [joinL_nil]
      refine s_inT ?_
      walk_at "dd"
      refine i_two (fun c => ?_) fun c => ?_
      · walk_at "dd"
        exact h1 (decide_eq_true c)
      · walk_at "dd"
        exact h2 (decide_eq_false c)
    have e := filt_rng (fun n => decide (48 + n ∈ rs.flatten)) 8
    rw [show Int.toNat 8 = 8 from rfl, e]
    walk_at "dd"
    refine ⟨by omega, by have := cls_len rs; omega, .inl ?_⟩
    have eq : ((List.range 8).filter fun n => decide (48 + n ∈ rs.flatten)).map (fun k => D.int (k : Nat)) = rngD 0 (((cls rs).length : Nat) : Int).toNat := by
      show (cls rs).map _ = _
      rw [Int.toNat_natCast, rngD]
      conv => lhs; rw [h.all_]
      refine List.map_congr_left fun i _ => ?_
      show D.int (i : Nat) = D.int (0 + (i : Nat))
      rw [Int.zero_add]
    rw [eq, rng_ints]
    generalize ((List.range (((cls rs).length : Nat) : Int).toNat).map fun (i : Nat) => (0 : Int) + (i : Nat)) = ns
    have ep : pd (.lst (ns.map .int)) = some (.list (ns.map PyData.int)) := by
      show (pds (ns.map .int)).map PyData.list = _
      rw [pds_ints] <;> rfl
    have er : PyData.eqv (.list (ns.map PyData.int)) (.list (ns.map PyData.int)) = true := by
      rw [PyData.eqv, eqv_ints]
      simp
    have es : SeqAt.shaped (.list (ns.map PyData.int)) = true := shp_ints ns
    refine s_neD (pdV ep) (pdV ep) es es ?_
    rw [er]
    walk_at "dd"
    exact q
end Toy

set_option Elab.async false
set_option linter.all false
set_option maxRecDepth 100000
set_option maxHeartbeats 8000000
namespace Toy
open PySem PySem.Spec PyProof.Rows L2 My Dt SX Pln
local macro_rules | `(tactic| walk_at "rg") => `(tactic| first
  | omega
  | ((refine And.intro ?_ (And.intro ?_ (And.intro ?_ ?_))) <;> omega))
local macro_rules | `(tactic| walk_at "ls") => `(tactic| first
  | with_reducible exact ls_v
  | with_reducible exact ls_b
  | ((with_reducible refine' ls_p ?hlp); (case hlp => with_reducible assumption)))
local macro_rules | `(tactic| walk_at "start") => `(tactic| ((simp only [startM, startS, List.map_cons, List.map_nil, List.length_cons, List.length_nil, List.cons_append, List.nil_append, Nat.reduceAdd, Nat.reduceSub, List.replicate_succ, List.replicate_zero]); exact rfl))
local macro_rules | `(tactic| walk_at "set") => `(tactic| first
  | ((dsimp only [Int.reduceToNat, List.set_cons_zero, List.set_cons_succ, VO.sl]); done)
  | ((dsimp only [Int.reduceToNat, List.set_cons_zero, List.set_cons_succ, VO.sl]); exact rfl)
  | exact rfl)
local macro_rules | `(tactic| walk_at "sz") => `(tactic| first
  | exact sz_of (Nat.le_of_ble_eq_true rfl)
  | (apply sz_of; simp only [List.length_cons, List.length_nil, List.length_append, List.length_map]; omega))
local macro_rules | `(tactic| walk_at "side") => `(tactic| first
  | with_reducible assumption
  | omega
  | exact ml (by omega) (by omega)
  | exact mr (by omega) (by omega)
  | exact dv (by omega) (by omega)
  | exact Bd.mulOk (by with_reducible assumption) (by with_reducible assumption) (by decide) (by decide) (by decide)
  | exact Bd.div (by with_reducible assumption) (by omega) (by decide) (by decide)
  | (show (0 : Int) < _; omega)
  | exact ⟨by decide, by decide, by decide⟩
  | decide
  | exact rfl)
local macro_rules | `(tactic| walk_at "st") => `(tactic| first
  | with_reducible refine q_seq ?_
  | with_reducible refine q_end ?_
  | with_reducible refine q_nil ?_
  | with_reducible refine q_asg ?_
  | with_reducible refine q_ret ?_
  | with_reducible refine q_if ?_
  | with_reducible refine q_expr ?_
  | with_reducible refine q_retN ?_
  | with_reducible refine q_sub ?_
  | with_reducible refine q_for ?_
  | with_reducible refine q_par ?_
  | with_reducible refine q_par3 ?_
  | with_reducible refine q_parV ?_
  | with_reducible refine q_parV3 ?_
  | with_reducible refine q_asgF ?_
  | with_reducible refine q_asgC ?_
  | ((with_reducible refine' q_frz ?ef ?_); (case ef => exact rfl))
  | ((with_reducible refine' q_app ?ea ?eb ?_); (case ea => exact rfl); (case eb => walk_at "slen"))
  | with_reducible refine q_brk ?_
  | with_reducible refine q_cnt ?_
  | with_reducible refine q_fldS ?_
  | with_reducible refine q_fldP ?_
  | with_reducible refine q_raise ?_
  | with_reducible refine q_try ?_)
local macro_rules | `(tactic| walk_at "slen") => `(tactic| first
  | with_reducible assumption
  | ((rw [sizeLine_eq]); (simp only [List.length_cons, List.length_nil, List.length_append, List.length_map]); omega))
local macro_rules | `(tactic| walk_at "sm") => `(tactic| first
  | with_reducible refine s_add ?_
  | with_reducible refine s_sub ?_
  | ((with_reducible refine' s_mul ?hm ?_); (case hm => walk_at "side"))
  | ((with_reducible refine' s_fdiv ?hm ?_); (case hm => walk_at "side"))
  | ((with_reducible refine' s_mod ?hm ?_); (case hm => walk_at "side"))
  | with_reducible refine s_neg ?_
  | ((with_reducible refine' s_pow ?hm ?_); (case hm => walk_at "side"))
  | ((with_reducible refine' s_ixL ?hl ?he ?_); (case hl => walk_at "ls"); (case he => exact rfl))
  | ((with_reducible refine' s_ixT ?he ?_); (case he => exact rfl))
  | ((with_reducible refine' set_L2 ?ha ?hb ?hc ?_); (case ha => with_reducible assumption); (case hb => exact rfl); (case hc => walk_at "set"))
  | with_reducible refine s_addB ?_
  | with_reducible refine s_lt ?_
  | with_reducible refine s_le ?_
  | with_reducible refine s_gt ?_
  | with_reducible refine s_ge ?_
  | with_reducible refine s_eq ?_
  | with_reducible refine s_ne ?_
  | with_reducible refine s_eqS ?_
  | with_reducible refine s_neS ?_
  | with_reducible refine s_isN ?_
  | with_reducible refine s_isNotN ?_
  | with_reducible refine t_bl ?_)
local macro_rules | `(tactic| walk_at "cl") => `(tactic| first
  | with_reducible refine c_int ?_
  | with_reducible refine c_intB ?_
  | with_reducible refine c_abs ?_
  | ((with_reducible refine' c_max ?hm ?_); (case hm => exact rfl))
  | ((with_reducible refine' c_min ?hm ?_); (case hm => exact rfl))
  | ((with_reducible refine' c_divmod ?hm ?_); (case hm => walk_at "side"))
  | ((with_reducible refine' c_len ?hm ?_); (case hm => walk_at "sq"))
  | ((with_reducible refine' c_list ?hm ?_); (case hm => walk_at "sq"))
  | ((with_reducible refine' c_tuple ?hm ?_); (case hm => walk_at "sq")))
local macro_rules | `(tactic| walk_at "sq") => `(tactic| first
  | exact sqL
  | exact sqT
  | exact sqB
  | exact sqP (by with_reducible assumption))
local macro_rules | `(tactic| walk_at "v") => `(tactic| first
  | ((with_reducible refine' v_sh ?ev ?_); (case ev => exact rfl))
  | ((with_reducible refine' v_ol ?ev ?_); (case ev => exact rfl))
  | ((with_reducible refine' v_slf ?ev ?_); (case ev => exact rfl))
  | with_reducible refine q_val ?_
  | ((with_reducible refine' q_walk ?ew ?_); (case ew => exact rfl))
  | ((with_reducible refine' q_rng1 ?ej ?ek ?_); (case ej => walk_at "rg"); (case ek => walk_at "rg"))
  | ((with_reducible refine' q_rng2 ?ej ?_); (case ej => walk_at "rg"))
  | with_reducible refine q_rngL ?_
  | with_reducible refine q_solc ?_
  | with_reducible refine q_sol0 ?_
  | ((with_reducible refine' q_gname ?eg ?_); (case eg => walk_at "set"))
  | ((with_reducible refine' n_set ?eg ?_); (case eg => walk_at "set"))
  | ((with_reducible refine' n_set2 ?eg ?_); (case eg => walk_at "set"))
  | ((with_reducible refine' n_set3 ?eg ?_); (case eg => walk_at "set"))
  | with_reducible refine q_two ?_
  | with_reducible refine q_three ?_
  | with_reducible refine q_vv ?_
  | with_reducible refine q_isS ?_
  | with_reducible refine q_isL ?_
  | with_reducible refine q_twoV ?_
  | with_reducible refine q_threeV ?_
  | with_reducible refine q_bl ?_
  | with_reducible refine q_oint ?_
  | ((with_reducible refine' q_gtup ?el ?_); (case el => exact rfl))
  | with_reducible refine q_gcons ?_
  | with_reducible refine q_gnil ?_
  | with_reducible refine i_t ?_
  | with_reducible refine i_f ?_
  | with_reducible refine i_nt ?_
  | with_reducible refine i_nf ?_
  | ((with_reducible refine' n_t ?en ?_); (case en => exact rfl))
  | ((with_reducible refine' n_f ?en ?_); (case en => exact rfl))
  | ((with_reducible refine' nn_t ?en ?_); (case en => exact rfl))
  | ((with_reducible refine' nn_f ?en ?_); (case en => exact rfl))
  | with_reducible refine And.intro (by walk_at "sz") ?_)
local macro_rules | `(tactic| walk_at "d") => `(tactic| first
  | walk_at "v"
  | walk_at "st"
  | walk_at "sm"
  | walk_at "cl"
  | walk_at "at")
local macro_rules | `(tactic| walk_at "dd") => `(tactic| repeat walk_at "d")
local macro_rules | `(tactic| walk_at "tx") => `(tactic| simp only [l_dash, l_dot, l_nil, l_space, l_figs, l_signs])

variable {P : Program} {w : World} {K : PySem.W.Frag} {mg : Str → Option Value} {base : Heap} {S : Sto} {Ex : XS} {Q : QO}
def leadD (l : List Nat) : D := .tup (l.map fun n => .int (n : Nat))
def rowD (ls : List (List Nat)) : D := .lst (ls.map leadD)
theorem lead_some {rs : List (List Nat)} (h : Ok rs) {m k : Nat} (hm : m < rs.length) (hk : k ≤ m) (hs : isS (sgn rs m k) = true) : ∃ a, a ∈ lead rs m k := by
  obtain ⟨r, hr⟩ := run_ends h rs.length m k (List.replicate rs.length 0) hm hk (by omega) (by rw [List.length_replicate]; omega) fun x hx => by rw [List.eq_of_mem_replicate hx]; exact Nat.zero_le _
  refine ⟨r.1, run_lead h rs.length m k _ r hm hk (fun x hx => by rw [List.eq_of_mem_replicate hx]; exact Nat.zero_le _) (fun z => ?_) hs hr⟩
  rw [z] at hs
  cases hs
theorem leads_drop : ∀ (rs : List (List Nat)) (i : Nat), (leads rs).drop i = leads (rs.drop i)
  | rs, 0 => rfl
  | [], _ + 1 => rfl
  | r :: rs, i + 1 => by
    rw [leads, List.drop_succ_cons, List.drop_succ_cons, leads_drop rs i]
theorem d_join {c : Prop} [Decidable c] {t1 t2 : RE} {d : D} {ρ : List Sl} {S : Sto} {E : XD} {Q' : QO} (q : Q' (.v d) S) (h1 : c → ∀ Q' : QO, Q' (.v d) S → t1 ρ S E Q') (h2 : ¬ c → ∀ Q' : QO, Q' (.v d) S → t2 ρ S E Q') : if decide c = true then t1 ρ S E Q' else t2 ρ S E Q' := by
  split
  · rename_i z
    exact h1 (of_decide_eq_true z) _ q
  · rename_i z
    exact h2 (fun y => z (decide_eq_true y)) _ q
def rp (p : Nat → Bool) : D → Bool
  | .int k => p k.toNat
  | _ => false
theorem rp_rng (p : Nat → Bool) (n : Nat) : ((rngD 0 n).filter (rp p)).map id = ((List.range n).filter p).map fun k => .int (k : Nat) := by
  rw [← filt_rng p n]
  congr 2
  try (funext d; cases d <;> rfl)
theorem dig_of {c : Nat} (h : isS c = true) (hn : c ≠ 45) : 48 ≤ c ∧ c ≤ 55 := by
  unfold isS at h
  simp at h
  omega
theorem mem_nat (k : Nat) (l : List Nat) : decide ((k : Int) ∈ l.map fun n => ((n : Nat) : Int)) = decide (k ∈ l) := by
  rw [decide_eq_decide]
  exact ⟨fun h => by
    obtain ⟨n, hn, e⟩ := List.mem_map.mp h
    rw [← Int.ofNat.inj e]
    exact hn, fun h => List.mem_map.mpr ⟨k, h, rfl⟩⟩
theorem drop_at {rs : List (List Nat)} {j : Nat} (h : j < rs.length) : rs.drop j = rs.getD j [] :: rs.drop (j + 1) := by
  rw [List.drop_eq_getElem_cons h, List.getD_eq_getElem?_getD, List.getElem?_eq_getElem h] <;> rfl
theorem sgn_kind {rs : List (List Nat)} (h : Ok rs) {m k : Nat} (hm : m < rs.length) (hk : k ≤ m) : isS (sgn rs m k) = true ∨ sgn rs m k = 46 := by
  cases m with
  | zero =>
    obtain rfl : k = 0 := by omega
    unfold sgn
    rw [h.one]
    exact .inl rfl
  | succ m =>
    have f := h.fits m hm
    have hl := h.len (m + 1) hm
    unfold fit at f
    rw [Bool.and_eq_true, List.all_eq_true] at f
    have g := f.2 k (List.mem_range.mpr (by omega))
    rw [Bool.and_eq_true, Bool.or_eq_true, beq_iff_eq, beq_iff_eq] at g
    exact g.2
theorem entry_len (row : List Nat) (b : List (List Nat)) : (entry row b).length = row.length := by
  unfold entry
  rw [List.length_map, List.length_range]
theorem entry_at {row : List Nat} {b : List (List Nat)} {k : Nat} (h : k < row.length) : (entry row b)[k]? = some (if row.getD k 0 = 45 then (List.range 8).filter fun n => decide (n ∈ b.getD k [] ∨ n ∈ b.getD (k + 1) []) else if row.getD k 0 = 46 then [] else [row.getD k 0 - 48]) := by
  unfold entry
  rw [List.getElem?_map, List.getElem?_range h] <;> rfl
theorem take_put {α : Type} {l : List α} {k : Nat} {x : α} (h : l[k]? = some x) : l.take (k + 1) = l.take k ++ [x] := by
  rw [List.take_add_one, h] <;> rfl
theorem leadD_def (l : List Nat) : leadD l = .tup ((l.map fun n => ((n : Nat) : Int)).map .int) := by
  unfold leadD
  rw [List.map_map] <;> rfl
/-- a row's entries as far as they are made -/
theorem ok_leads_of (T : Tx K mg) {rs : List (List Nat)} (h : Ok rs) (q : Q (.v (.lst ((leads rs).map rowD))) S) : sFun (bs P w K mg base) 1 (.ref (He.ga K "leads_of")) [] [.tup (rs.map tx)] [] S Ex Q := by
  refine' call_d (B := bs P w K mg base) 0 (Classical.choose_spec T.d_leads_of) sc_leads_of rfl (bm_all (ps := ["rows"]) (Classical.choose_spec T.d_leads_of) (fun _ _ _ _ _ _ us hl => match us, hl with | [_], _ => rfl)) (dss_cons (dstF 1 (df_lst da_nil)) (dss_cons (ds_for rfl rfl (di_val (de_rev (dv 0))) (dgn 2) (dss_cons (dst 3 (de_if (dt_cmp (de_callB (id := "len") rfl T.f_len (by decide +kernel) (da_cons (dv 1) da_nil)) de_int) (de_ix (dv 1) (de_bin (de_callB (id := "len") rfl T.f_len (by decide +kernel) (da_cons (dv 1) da_nil)) de_int) (fun _ _ => rfl)) (de_lstV da_nil))) (dss_cons (dstF 4 (df_lst da_nil)) (dss_cons (ds_for rfl rfl (di_range1 rfl T.f_range (da_cons (de_callB (id := "len") rfl T.f_len (by decide +kernel) (da_cons (dv 2) da_nil)) da_nil)) (dgn 5) (dss_one (ds_if (dt_cmp (de_ix (dv 2) (dv 5) (fun _ _ => rfl)) de_str) (dss_cons (ds_asgS (de_tup (da_cons (de_ix (dv 3) (dv 5) (fun _ _ => rfl)) (da_cons (de_ix (dv 3) (de_bin (dv 5) de_int) (fun _ _ => rfl)) da_nil))) (dg_tup (n := 2) rfl (dgs_cons (dgn 6) (dgs_cons (dgn 7) dgs_nil))) (fun env h => by cases env; cases h; rfl)) (dss_one (ds_app (i := 4) rfl (.inl rfl) (de_callT (T := "tuple") rfl T.f_tuple (by decide +kernel) (da_cons (DF.de (df_lc (own := [("number", 8)]) rfl (by decide) (di_range1 rfl T.f_range (da_cons (de_gint rfl T.c_CLASSES) da_nil)) (blkOk_by (N := ["rows", "table", "row", "below", "entries", "found", "near", "far", "number"]) (sc := defScope s_leads_of) (by decide +kernel)) (dgn 8) (dts_one (DW.dt (dw_or (dt_cmp (dv 8) (dv 6)) (dw_or1 (dt_cmp (dv 8) (dv 7)))))) (dv 8))) da_nil))))) (dss_one (ds_app (i := 4) rfl (.inl rfl) (de_if (dt_cmp (de_ix (dv 2) (dv 5) (fun _ _ => rfl)) de_str) (de_tup (da_cons (de_callT (T := "int") rfl T.f_int (by decide +kernel) (da_cons (de_ix (dv 2) (dv 5) (fun _ _ => rfl)) da_nil)) da_nil)) (de_tup da_nil))))))) (dss_frz 4 (dss_one (ds_app (i := 1) rfl (.inl rfl) (dv 4)))))))) (dss_frz 1 (dss_one (ds_ret (de_rev (dv 1))))))) ⟨rfl, rfl⟩ ?st ?_
  case st => walk_at "start"
  walk_at "tx"
  walk_at "dd"
  refine .inl ⟨_, rfl, ?_⟩
  walk_at "dd"
  refine loop_inv (fun i ρ S' => S' = S ∧ ∃ (x2 x3 x4 x5 x6 x7 x8 : Sl), ρ = [.sh (.tup (rs.map tx)), .ol (((leads (rs.drop (rs.length - i))).map rowD).reverse), x2, x3, x4, x5, x6, x7, x8]) ⟨rfl, _, _, _, _, _, _, _, by rw [Nat.sub_zero, List.drop_length]; exact rfl⟩ ?_ ?_
  · rintro i x ρ S' Nx hx ⟨rfl, x2, x3, x4, x5, x6, x7, x8, rfl⟩ hN
    have hi : i < rs.length := by
      have := (List.getElem?_eq_some_iff.mp hx).1
      rw [List.length_reverse, List.length_map] at this
      exact this
    obtain ⟨j, hj⟩ : ∃ j, rs.length = i + j + 1 := ⟨rs.length - i - 1, by omega⟩
    have hjn : j < rs.length := by omega
    obtain rfl : x = tx (rs.getD j []) := by
      rw [List.getElem?_reverse (by rw [List.length_map]; exact hi), List.length_map, List.getElem?_map, show rs.length - 1 - i = j by omega, List.getElem?_eq_getElem hjn] at hx
      rw [List.getD_eq_getElem?_getD, List.getElem?_eq_getElem hjn]
      exact (Option.some.inj hx).symm
    rw [show rs.length - i = j + 1 by omega]
    have tl : (((leads (rs.drop (j + 1))).map rowD).reverse).length = i := by
      rw [List.length_reverse, List.length_map, leads_len, List.length_drop]
      omega
    have ld := leads.eq_2 (rs.getD j []) (rs.drop (j + 1))
    rw [← drop_at hjn] at ld
    have rl := h.len j hjn
    have most := h.most
    have kd : ∀ f, f ≤ j → isS ((rs.getD j []).getD f 0) = true ∨ (rs.getD j []).getD f 0 = 46 := fun f hf => sgn_kind h hjn hf
    have bl : ∀ f, f ≤ j → (rs.getD j []).getD f 0 = 45 → f + 1 < ((leads (rs.drop (j + 1))).headD []).length := fun f hf e => by
      rcases Nat.lt_or_ge (j + 1) rs.length with z | z
      · rw [drop_at z, leads]
        show f + 1 < (entry _ _).length
        rw [entry_len, h.len (j + 1) z]
        omega
      · exfalso
        have ends := h.ends
        rw [show rs.length - 1 = j by omega] at ends
        refine ends (List.mem_of_getElem? (i := f) ?_)
        rw [List.getD_eq_getElem?_getD, List.getElem?_eq_getElem (by omega)] at e
        rw [List.getElem?_eq_getElem (by omega)]
        exact congrArg some e
    have hh : ∀ ls : List (List (List Nat)), ls ≠ [] → ((ls.map rowD).reverse)[ls.length - 1]? = some (rowD (ls.headD [])) := fun ls hn => by
      cases ls with
      | nil => exact absurd rfl hn
      | cons a ls =>
        rw [List.getElem?_reverse (by rw [List.length_map]; simp), List.length_map]
        simp
    have hb : i ≠ 0 → L2.atI (((leads (rs.drop (j + 1))).map rowD).reverse) ((i : Int) - 1) = some (rowD ((leads (rs.drop (j + 1))).headD [])) := fun hn => by
      have lz : (leads (rs.drop (j + 1))).length = i := by rw [leads_len, List.length_drop]; omega
      rw [show (i : Int) - 1 = ((i - 1 : Nat) : Int) by omega]
      have := hh (leads (rs.drop (j + 1))) (fun z => by rw [z] at lz; exact hn lz.symm)
      rw [lz] at this
      exact atI_nat this
    have hz : i = 0 → rowD ((leads (rs.drop (j + 1))).headD []) = .lst [] := fun z => by
      rw [List.drop_of_length_le (by omega)] <;> rfl
    generalize hB : (leads (rs.drop (j + 1))).headD [] = B at *
    generalize hR : rs.getD j [] = row at *
    generalize hT : ((leads (rs.drop (j + 1))).map rowD).reverse = tb at *
    walk_at "dd"
    rw [tl]
    refine d_join (d := rowD B) ?_ (fun c Q' q' => ?_) (fun c Q' q' => ?_)
    rotate_left
    · walk_at "dd"
      rw [tl]
      walk_at "dd"
      exact s_ixL ls_b (hb (by omega)) q'
    · rw [hz (by omega)] at q'
      walk_at "dd"
      exact q'
    walk_at "dd"
    refine c_lenT (by omega) ?_
    walk_at "dd"
    refine loop_inv (fun f ρ S2 => S2 = S' ∧ ∃ (x5 x6 x7 x8 : Sl), f ≤ row.length ∧ ρ = [.sh (.tup (rs.map tx)), .ol tb, .sh (tx row), .sh (rowD B), .ol (((entry row B).take f).map leadD), x5, x6, x7, x8]) ⟨rfl, _, _, _, _, Nat.zero_le _, rfl⟩ ?_ ?_
    · rintro f x ρ S2 Ny hx ⟨rfl, x5, x6, x7, x8, hf, rfl⟩ hM
      obtain ⟨hi2, rfl⟩ := rngD_at hx
      have hf2 : f < row.length := by omega
      rw [Int.zero_add]
      have ea := entry_at (b := B) hf2
      have et := take_put ea
      have a3 : L2.atI row (f : Int) = some (row.getD f 0) := atI_getD 0 hf2
      have zs : (((entry row B).take f).map leadD).length < sizeLine := by
        rw [List.length_map, List.length_take, sizeLine_eq]
        omega
      have put : ∀ (e : List Nat) (y6 y7 y8 : Sl), (if row.getD f 0 = 45 then (List.range 8).filter fun n => decide (n ∈ B.getD f [] ∨ n ∈ B.getD (f + 1) []) else if row.getD f 0 = 46 then [] else [row.getD f 0 - 48]) = e → Ny [.sh (.tup (rs.map tx)), .ol tb, .sh (tx row), .sh (rowD B), .ol (((entry row B).take f).map leadD ++ [leadD e]), .sh (.int f), y6, y7, y8] S2 := fun e y6 y7 y8 he => by
        rw [he] at et
        exact hM _ _ ⟨rfl, _, _, _, _, hf2, by rw [et, List.map_append]; exact rfl⟩
      walk_at "dd"
      refine s_ixTx (by omega) a3 ?_
      walk_at "dd"
      refine i_two (fun c => ?_) fun c => ?_
      · have c2 : row.getD f 0 = 45 := (List.cons.inj (S_inj c)).1
        have blf := bl f (by omega) c2
        rw [if_pos c2] at put
        have b1 : L2.atI (B.map leadD) (f : Int) = some (leadD (B.getD f [])) := atI_mapD [] (by omega)
        have b2 : L2.atI (B.map leadD) ((f : Int) + 1) = some (leadD (B.getD (f + 1) [])) := by
          rw [show (f : Int) + 1 = ((f + 1 : Nat) : Int) by omega]
          exact atI_mapD [] (by omega)
        walk_at "dd"
        refine s_ixL ls_v b1 ?_
        walk_at "dd"
        refine s_ixL ls_v b2 ?_
        walk_at "dd"
        refine lc_pure (rp fun n => decide (n ∈ B.getD f [] ∨ n ∈ B.getD (f + 1) [])) id (by rw [rngD_len]; omega) (fun z hz X Y h1 h2 => ?_) ?_
        · obtain ⟨k, hk, rfl⟩ := List.mem_map.mp hz
          replace h1 : decide (((0 : Int) + (k : Nat)).toNat ∈ B.getD f [] ∨ ((0 : Int) + (k : Nat)).toNat ∈ B.getD (f + 1) []) = true → X (.v (.int (0 + (k : Nat)))) S2 := h1
          replace h2 : decide (((0 : Int) + (k : Nat)).toNat ∈ B.getD f [] ∨ ((0 : Int) + (k : Nat)).toNat ∈ B.getD (f + 1) []) = false → Y S2 := h2
          rw [show ((0 : Int) + (k : Nat)).toNat = k by omega, Int.zero_add] at h1
          rw [show ((0 : Int) + (k : Nat)).toNat = k by omega] at h2
          rw [Int.zero_add]
          walk_at "dd"
          rw [leadD_def, leadD_def]
          refine s_inQ sqT ?_
          rw [mem_nat]
          walk_at "dd"
          refine i_two (fun c1 => ?_) fun c1 => ?_
          · walk_at "dd"
            exact h1 (decide_eq_true (.inl c1))
          · walk_at "dd"
            refine s_inQ sqT ?_
            rw [mem_nat]
            walk_at "dd"
            refine i_two (fun c3 => ?_) fun c3 => ?_
            · walk_at "dd"
              exact h1 (decide_eq_true (.inr c3))
            · walk_at "dd"
              exact h2 (decide_eq_false fun z => z.elim c1 c3)
        have e := rp_rng (fun n => decide (n ∈ B.getD f [] ∨ n ∈ B.getD (f + 1) [])) 8
        rw [show Int.toNat 8 = 8 from rfl, e]
        walk_at "dd"
        exact put _ _ _ _ rfl
      · have c2 : row.getD f 0 ≠ 45 := fun z => c (by rw [z])
        rw [if_neg c2] at put
        walk_at "dd"
        refine s_ixTx (by omega) a3 ?_
        walk_at "dd"
        refine n_two (fun c3 => ?_) fun c3 => ?_
        · rw [if_pos (List.cons.inj (S_inj c3)).1] at put
          walk_at "dd"
          exact put _ _ _ _ rfl
        · have c4 : row.getD f 0 ≠ 46 := fun z => c3 (by rw [z])
          rw [if_neg c4] at put
          have k1 := kd f (by omega)
          obtain ⟨n, hn, h7⟩ : ∃ n, row.getD f 0 = 48 + n ∧ n ≤ 7 := by
            rcases k1 with k1 | k1
            · have := dig_of k1 c2
              exact ⟨row.getD f 0 - 48, by omega, by omega⟩
            · exact absurd k1 c4
          rw [hn] at a3 put
          walk_at "dd"
          refine s_ixTx (by omega) a3 ?_
          refine c_intF (by omega) ?_
          walk_at "dd"
          exact put [n] _ _ _ (by rw [show 48 + n - 48 = n by omega])
    · rintro ρ S2 ⟨rfl, x5, x6, x7, x8, hf, rfl⟩
      have zs : tb.length < sizeLine := by
        rw [tl, sizeLine_eq]
        have := h.most
        omega
      walk_at "dd"
      have fin : tb ++ [rowD (entry row B)] = ((leads (rs.drop (rs.length - (i + 1)))).map rowD).reverse := by
        rw [show rs.length - (i + 1) = j by omega, ld, List.map_cons, List.reverse_cons, hT]
      have full : ((entry row B).take (row.length : Int).toNat).map leadD = (entry row B).map leadD := by
        rw [Int.toNat_natCast, ← entry_len row B, List.take_length]
      rw [rngD_len, full]
      exact hN _ _ ⟨rfl, _, _, _, _, _, _, _, by rw [← fin]; exact rfl⟩
  · rintro ρ S' ⟨rfl, x2, x3, x4, x5, x6, x7, x8, rfl⟩
    rw [List.length_reverse, List.length_map, Nat.sub_self, List.drop_zero]
    walk_at "dd"
    refine .inr ⟨_, ls_v, .inl ?_⟩
    rw [List.reverse_reverse]
    walk_at "dd"
    exact q
theorem reach {rs : List (List Nat)} (h : Ok rs) {m k x : Nat} (hm : m + 1 < rs.length) (hk : k ≤ m) (hx : x ≤ 1) (c : sgn rs m k = 45) : isS (sgn rs (m + 1) (k + x)) = true := by
  have f := h.fits m hm
  have l0 := h.len m (by omega)
  have l1 := h.len (m + 1) hm
  unfold fit at f
  rw [Bool.and_eq_true, List.all_eq_true] at f
  have g := f.2 (k + x) (List.mem_range.mpr (by omega))
  rw [Bool.and_eq_true, beq_iff_eq] at g
  have e45 : (rs.getD m [])[k]? = some 45 := by
    have : (rs.getD m []).getD k 0 = 45 := c
    rw [List.getD_eq_getElem?_getD, List.getElem?_eq_getElem (by omega)] at this
    rw [List.getElem?_eq_getElem (by omega)]
    exact congrArg some this
  have en : ent (rs.getD m []) (k + x) = true := by
    unfold ent
    rcases (show x = 0 ∨ x = 1 by omega) with rfl | rfl
    · rw [Nat.add_zero, e45]; simp
    · rw [Nat.add_sub_cancel, e45]; simp
  exact g.1.symm.trans en
theorem leads_row {rs : List (List Nat)} {m : Nat} (hm : m < rs.length) : ((leads rs).getD m []).length = (rs.getD m []).length := by
  have e : (leads rs)[m]? = some (entry (rs.getD m []) ((leads (rs.drop (m + 1))).headD [])) := by
    have d := leads_drop rs m
    rw [drop_at hm, leads] at d
    have : ((leads rs).drop m)[0]? = (leads rs)[m]? := by rw [List.getElem?_drop, Nat.add_zero]
    rw [← this, d] <;> rfl
  rw [List.getD_eq_getElem?_getD, e]
  exact entry_len _ _
theorem getD_mem {l : List Nat} {i : Nat} (h : i < l.length) : l.getD i 0 ∈ l := by
  rw [List.getD_eq_getElem?_getD, List.getElem?_eq_getElem h]
  exact List.getElem_mem h
theorem two_at {l : List Nat} {k : Nat} (h : k + 1 < l.length) (h1 : l.getD k 0 = 45) (h2 : l.getD (k + 1) 0 = 45) : (l.drop (min k l.length)).take (min (k + 2) l.length - min k l.length) = [45, 45] := by
  rw [show min k l.length = k by omega, show min (k + 2) l.length - k = 2 by omega]
  rw [List.getD_eq_getElem?_getD, List.getElem?_eq_getElem (by omega)] at h1 h2
  rw [List.drop_eq_getElem_cons (by omega), List.drop_eq_getElem_cons h]
  show [l[k], l[k + 1]] = _
  rw [show l[k] = 45 from h1, show l[k + 1] = 45 from h2]
theorem ok_find_sinking (T : Tx K mg) {rs : List (List Nat)} (h : Plan rs) (q : Q (.v .non) S) : sFun (bs P w K mg base) 2 (.ref (He.ga K "find_sinking")) [] [.tup (rs.map tx)] [] S Ex Q := by
  refine' call_d (B := bs P w K mg base) 1 (Classical.choose_spec T.d_find_sinking) sc_find_sinking rfl (bm_all (ps := ["rows"]) (Classical.choose_spec T.d_find_sinking) (fun _ _ _ _ _ _ us hl => match us, hl with | [_], _ => rfl)) (dss_cons (dst 1 (de_call rfl rfl ⟨T.g_leads_of, (Classical.choose_spec T.d_leads_of).kp⟩ (da_cons (dv 0) da_nil))) (dss_cons (ds_for rfl rfl (di_range1 rfl T.f_range (da_cons (de_bin (de_callB (id := "len") rfl T.f_len (by decide +kernel) (da_cons (dv 0) da_nil)) de_int) da_nil)) (dgn 2) (dss_one (ds_for rfl rfl (di_range1 rfl T.f_range (da_cons (de_bin (dv 2) de_int) da_nil)) (dgn 3) (dss_one (ds_if (dt_cmp (de_ix (de_ix (dv 0) (dv 2) (fun _ _ => rfl)) (dv 3) (fun _ _ => rfl)) de_str) (dss_cons (dst 4 (de_ix (dv 0) (de_bin (dv 2) de_int) (fun _ _ => rfl))) (dss_cons (ds_par (i := 5) (j := 6) rfl rfl rfl (by decide) rfl rfl (da_cons (de_ix (de_ix (dv 1) (de_bin (dv 2) de_int) (fun _ _ => rfl)) (dv 3) (fun _ _ => rfl)) (da_cons (de_ix (de_ix (dv 1) (de_bin (dv 2) de_int) (fun _ _ => rfl)) (de_bin (dv 3) de_int) (fun _ _ => rfl)) da_nil)) (fun env h => by cases env; cases h; rfl)) (dss_one (ds_if (DW.dt (dw_and (dt_cmp (de_bin de_str de_str) (de_sl (dv 4) (do_some (dv 3)) (do_some (de_bin (dv 3) de_int)))) (dw_and1 (dt_cmp (de_ix (dv 5) (de_bin (de_callB (id := "len") rfl T.f_len (by decide +kernel) (da_cons (dv 5) da_nil)) de_int) (fun _ _ => rfl)) (de_ix (dv 6) de_int (fun _ _ => rfl)))))) (dss_cons ds_never (dss_cons ds_never (dss_cons ds_never (dss_cons ds_never (dss_frz 9 (dss_one ds_never)))))) dss_nil)))) dss_nil))))) (dss_one (ds_ret de_non)))) ⟨rfl, rfl⟩ ?st ?_
  case st => walk_at "start"
  walk_at "tx"
  walk_at "dd"
  refine ok_leads_of T h.ok ?_
  have most := h.ok.most
  have two := h.ok.two
  have hl := h.ok.len
  have at_ : ∀ i, i < rs.length → L2.atI (rs.map tx) (i : Int) = some (tx (rs.getD i [])) := fun i hi => atI_mapD [] hi
  have tb_ : ∀ i, i < rs.length → L2.atI ((leads rs).map rowD) (i : Int) = some (rowD ((leads rs).getD i [])) := fun i hi => atI_mapD [] (by rw [leads_len]; exact hi)
  walk_at "dd"
  rw [List.length_map]
  walk_at "dd"
  refine loop_inv (fun i ρ S' => S' = S ∧ ∃ (x2 x3 x4 x5 x6 x7 x8 x9 x10 : Sl), ρ = [.sh (.tup (rs.map tx)), .sh (.lst ((leads rs).map rowD)), x2, x3, x4, x5, x6, x7, x8, x9, x10]) ⟨rfl, _, _, _, _, _, _, _, _, _, rfl⟩ ?_ ?_
  · rintro m x ρ S' Nx hx ⟨rfl, x2, x3, x4, x5, x6, x7, x8, x9, x10, rfl⟩ hN
    obtain ⟨hi2, rfl⟩ := rngD_at hx
    have hm : m + 1 < rs.length := by omega
    rw [Int.zero_add]
    walk_at "dd"
    refine loop_inv (fun k ρ S2 => S2 = S' ∧ ∃ (x3 x4 x5 x6 x7 x8 x9 x10 : Sl), ρ = [.sh (.tup (rs.map tx)), .sh (.lst ((leads rs).map rowD)), .sh (.int m), x3, x4, x5, x6, x7, x8, x9, x10]) ⟨rfl, _, _, _, _, _, _, _, _, rfl⟩ ?_ ?_
    · rintro k x ρ S2 Ny hx ⟨rfl, x3, x4, x5, x6, x7, x8, x9, x10, rfl⟩ hM
      obtain ⟨hi3, rfl⟩ := rngD_at hx
      have hk : k ≤ m := by omega
      rw [Int.zero_add]
      have l0 := hl m (by omega)
      have l1 := hl (m + 1) hm
      have em : (m : Int) + 1 = ((m + 1 : Nat) : Int) := by omega
      have ek : (k : Int) + 1 = ((k + 1 : Nat) : Int) := by omega
      have ek2 : (k : Int) + 2 = ((k + 2 : Nat) : Int) := by omega
      walk_at "dd"
      refine s_ixT (at_ m (by omega)) ?_
      walk_at "dd"
      refine s_ixTx (by omega) (atI_getD 0 (by omega)) ?_
      walk_at "dd"
      refine i_two (fun c => ?_) fun c => ?_
      · have c2 : sgn rs m k = 45 := (List.cons.inj (S_inj c)).1
        walk_at "dd"
        rw [em]
        refine s_ixT (at_ (m + 1) hm) ?_
        have lr := leads_row hm
        have t1 := tb_ (m + 1) hm
        have s0 := reach h.ok hm hk (Nat.zero_le 1) c2
        have s1 := reach h.ok hm hk (Nat.le_refl 1) c2
        obtain ⟨x0, hx0⟩ := lead_some h.ok hm (by omega) s0
        obtain ⟨x1, hx1⟩ := lead_some h.ok hm (by omega) s1
        have up := h.up m k hm hk c2
        have a0 : L2.atI (((leads rs).getD (m + 1) []).map leadD) (k : Int) = some (leadD (lead rs (m + 1) k)) := atI_mapD [] (by omega)
        have a1 : L2.atI (((leads rs).getD (m + 1) []).map leadD) ((k + 1 : Nat) : Int) = some (leadD (lead rs (m + 1) (k + 1))) := atI_mapD [] (by omega)
        replace hx0 : x0 ∈ lead rs (m + 1) k := hx0
        walk_at "dd"
        rw [em]
        refine s_ixL ls_v t1 ?_
        walk_at "dd"
        refine s_ixL ls_v a0 ?_
        walk_at "dd"
        rw [em]
        refine s_ixL ls_v t1 ?_
        walk_at "dd"
        rw [ek]
        refine s_ixL ls_v a1 ?_
        walk_at "dd"
        refine s_catTx (Nat.le_of_ble_eq_true rfl) ?_
        walk_at "dd"
        rw [ek2]
        refine s_slS (by rw [S_len, sizeLine_eq]; omega) ?_
        rw [cut_two]
        refine s_neT ?_
        walk_at "dd"
        refine n_two (fun c3 => ?_) fun c3 => ?_
        · walk_at "dd"
          exact hM _ _ ⟨rfl, _, _, _, _, _, _, _, _, rfl⟩
        · have up2 := up (by
            rcases Nat.decEq (sgn rs (m + 1) k) 45 with z | z
            · exact .inl z
            · refine .inr fun z2 => c3 ?_
              exact (two_at (by omega) z z2).symm)
          have p0 := List.length_pos_of_mem hx0
          have p1 := List.length_pos_of_mem hx1
          have i0 : L2.atI ((lead rs (m + 1) k).map fun n => D.int (n : Nat)) (((lead rs (m + 1) k).length : Int) - 1) = some (.int ((lead rs (m + 1) k).getD ((lead rs (m + 1) k).length - 1) 0 : Nat)) := by
            rw [show ((lead rs (m + 1) k).length : Int) - 1 = (((lead rs (m + 1) k).length - 1 : Nat) : Int) by omega]
            exact atI_mapD (f := fun n : Nat => D.int (n : Nat)) 0 (by omega)
          have i1 : L2.atI ((lead rs (m + 1) (k + 1)).map fun n => D.int (n : Nat)) (0 : Int) = some (.int ((lead rs (m + 1) (k + 1)).getD 0 0 : Nat)) := atI_mapD (i := 0) (f := fun n : Nat => D.int (n : Nat)) 0 p1
          have le := up2 ((lead rs (m + 1) k).getD ((lead rs (m + 1) k).length - 1) 0) (getD_mem (by omega)) ((lead rs (m + 1) (k + 1)).getD 0 0) (getD_mem p1)
          walk_at "dd"
          rw [List.length_map]
          refine s_ixT i0 ?_
          walk_at "dd"
          refine s_ixT i1 ?_
          walk_at "dd"
          refine i_neg (by omega) ?_
          walk_at "dd"
          exact hM _ _ ⟨rfl, _, _, _, _, _, _, _, _, rfl⟩
      · walk_at "dd"
        exact hM _ _ ⟨rfl, _, _, _, _, _, _, _, _, rfl⟩
    · rintro ρ S2 ⟨rfl, x3, x4, x5, x6, x7, x8, x9, x10, rfl⟩
      walk_at "dd"
      exact hN _ _ ⟨rfl, _, _, _, _, _, _, _, _, _, rfl⟩
  · rintro ρ S' ⟨rfl, x2, x3, x4, x5, x6, x7, x8, x9, x10, rfl⟩
    walk_at "dd"
    exact q
end Toy

set_option Elab.async false
set_option linter.all false
set_option maxRecDepth 100000
set_option maxHeartbeats 8000000
namespace Toy
open PySem PySem.Spec PyProof.Rows L2 My Dt SX Pln
local macro_rules | `(tactic| walk_at "rg") => `(tactic| first
  | omega
  | ((refine And.intro ?_ (And.intro ?_ (And.intro ?_ ?_))) <;> omega))
local macro_rules | `(tactic| walk_at "ls") => `(tactic| first
  | with_reducible exact ls_v
  | with_reducible exact ls_b
  | ((with_reducible refine' ls_p ?hlp); (case hlp => with_reducible assumption)))
local macro_rules | `(tactic| walk_at "start") => `(tactic| ((simp only [startM, startS, List.map_cons, List.map_nil, List.length_cons, List.length_nil, List.cons_append, List.nil_append, Nat.reduceAdd, Nat.reduceSub, List.replicate_succ, List.replicate_zero]); exact rfl))
local macro_rules | `(tactic| walk_at "set") => `(tactic| first
  | ((dsimp only [Int.reduceToNat, List.set_cons_zero, List.set_cons_succ, VO.sl]); done)
  | ((dsimp only [Int.reduceToNat, List.set_cons_zero, List.set_cons_succ, VO.sl]); exact rfl)
  | exact rfl)
local macro_rules | `(tactic| walk_at "sz") => `(tactic| first
  | exact sz_of (Nat.le_of_ble_eq_true rfl)
  | (apply sz_of; simp only [List.length_cons, List.length_nil, List.length_append, List.length_map]; omega))
local macro_rules | `(tactic| walk_at "side") => `(tactic| first
  | with_reducible assumption
  | omega
  | exact ml (by omega) (by omega)
  | exact mr (by omega) (by omega)
  | exact dv (by omega) (by omega)
  | exact Bd.mulOk (by with_reducible assumption) (by with_reducible assumption) (by decide) (by decide) (by decide)
  | exact Bd.div (by with_reducible assumption) (by omega) (by decide) (by decide)
  | (show (0 : Int) < _; omega)
  | exact ⟨by decide, by decide, by decide⟩
  | decide
  | exact rfl)
local macro_rules | `(tactic| walk_at "st") => `(tactic| first
  | with_reducible refine q_seq ?_
  | with_reducible refine q_end ?_
  | with_reducible refine q_nil ?_
  | with_reducible refine q_asg ?_
  | with_reducible refine q_ret ?_
  | with_reducible refine q_if ?_
  | with_reducible refine q_expr ?_
  | with_reducible refine q_retN ?_
  | with_reducible refine q_sub ?_
  | with_reducible refine q_for ?_
  | with_reducible refine q_par ?_
  | with_reducible refine q_par3 ?_
  | with_reducible refine q_parV ?_
  | with_reducible refine q_parV3 ?_
  | with_reducible refine q_asgF ?_
  | with_reducible refine q_asgC ?_
  | ((with_reducible refine' q_frz ?ef ?_); (case ef => exact rfl))
  | ((with_reducible refine' q_app ?ea ?eb ?_); (case ea => exact rfl); (case eb => walk_at "slen"))
  | with_reducible refine q_brk ?_
  | with_reducible refine q_cnt ?_
  | with_reducible refine q_fldS ?_
  | with_reducible refine q_fldP ?_
  | with_reducible refine q_raise ?_
  | with_reducible refine q_try ?_)
local macro_rules | `(tactic| walk_at "slen") => `(tactic| first
  | with_reducible assumption
  | ((rw [sizeLine_eq]); (simp only [List.length_cons, List.length_nil, List.length_append, List.length_map]); omega))
local macro_rules | `(tactic| walk_at "sm") => `(tactic| first
  | with_reducible refine s_add ?_
  | with_reducible refine s_sub ?_
  | ((with_reducible refine' s_mul ?hm ?_); (case hm => walk_at "side"))
  | ((with_reducible refine' s_fdiv ?hm ?_); (case hm => walk_at "side"))
  | ((with_reducible refine' s_mod ?hm ?_); (case hm => walk_at "side"))
  | with_reducible refine s_neg ?_
  | ((with_reducible refine' s_pow ?hm ?_); (case hm => walk_at "side"))
  | ((with_reducible refine' s_ixL ?hl ?he ?_); (case hl => walk_at "ls"); (case he => exact rfl))
  | ((with_reducible refine' s_ixT ?he ?_); (case he => exact rfl))
  | ((with_reducible refine' set_L2 ?ha ?hb ?hc ?_); (case ha => with_reducible assumption); (case hb => exact rfl); (case hc => walk_at "set"))
  | with_reducible refine s_addB ?_
  | with_reducible refine s_lt ?_
  | with_reducible refine s_le ?_
  | with_reducible refine s_gt ?_
  | with_reducible refine s_ge ?_
  | with_reducible refine s_eq ?_
  | with_reducible refine s_ne ?_
  | with_reducible refine s_eqS ?_
  | with_reducible refine s_neS ?_
  | with_reducible refine s_isN ?_
  | with_reducible refine s_isNotN ?_
  | with_reducible refine t_bl ?_)
local macro_rules | `(tactic| walk_at "cl") => `(tactic| first
  | with_reducible refine c_int ?_
  | with_reducible refine c_intB ?_
  | with_reducible refine c_abs ?_
  | ((with_reducible refine' c_max ?hm ?_); (case hm => exact rfl))
  | ((with_reducible refine' c_min ?hm ?_); (case hm => exact rfl))
  | ((with_reducible refine' c_divmod ?hm ?_); (case hm => walk_at "side"))
  | ((with_reducible refine' c_len ?hm ?_); (case hm => walk_at "sq"))
  | ((with_reducible refine' c_list ?hm ?_); (case hm => walk_at "sq"))
  | ((with_reducible refine' c_tuple ?hm ?_); (case hm => walk_at "sq")))
local macro_rules | `(tactic| walk_at "sq") => `(tactic| first
  | exact sqL
  | exact sqT
  | exact sqB
  | exact sqP (by with_reducible assumption))
local macro_rules | `(tactic| walk_at "v") => `(tactic| first
  | ((with_reducible refine' v_sh ?ev ?_); (case ev => exact rfl))
  | ((with_reducible refine' v_ol ?ev ?_); (case ev => exact rfl))
  | ((with_reducible refine' v_slf ?ev ?_); (case ev => exact rfl))
  | with_reducible refine q_val ?_
  | ((with_reducible refine' q_walk ?ew ?_); (case ew => exact rfl))
  | ((with_reducible refine' q_rng1 ?ej ?ek ?_); (case ej => walk_at "rg"); (case ek => walk_at "rg"))
  | ((with_reducible refine' q_rng2 ?ej ?_); (case ej => walk_at "rg"))
  | with_reducible refine q_rngL ?_
  | with_reducible refine q_solc ?_
  | with_reducible refine q_sol0 ?_
  | ((with_reducible refine' q_gname ?eg ?_); (case eg => walk_at "set"))
  | ((with_reducible refine' n_set ?eg ?_); (case eg => walk_at "set"))
  | ((with_reducible refine' n_set2 ?eg ?_); (case eg => walk_at "set"))
  | ((with_reducible refine' n_set3 ?eg ?_); (case eg => walk_at "set"))
  | with_reducible refine q_two ?_
  | with_reducible refine q_three ?_
  | with_reducible refine q_vv ?_
  | with_reducible refine q_isS ?_
  | with_reducible refine q_isL ?_
  | with_reducible refine q_twoV ?_
  | with_reducible refine q_threeV ?_
  | with_reducible refine q_bl ?_
  | with_reducible refine q_oint ?_
  | ((with_reducible refine' q_gtup ?el ?_); (case el => exact rfl))
  | with_reducible refine q_gcons ?_
  | with_reducible refine q_gnil ?_
  | with_reducible refine i_t ?_
  | with_reducible refine i_f ?_
  | with_reducible refine i_nt ?_
  | with_reducible refine i_nf ?_
  | ((with_reducible refine' n_t ?en ?_); (case en => exact rfl))
  | ((with_reducible refine' n_f ?en ?_); (case en => exact rfl))
  | ((with_reducible refine' nn_t ?en ?_); (case en => exact rfl))
  | ((with_reducible refine' nn_f ?en ?_); (case en => exact rfl))
  | with_reducible refine And.intro (by walk_at "sz") ?_)
local macro_rules | `(tactic| walk_at "d") => `(tactic| first
  | walk_at "v"
  | walk_at "st"
  | walk_at "sm"
  | walk_at "cl"
  | walk_at "at")
local macro_rules | `(tactic| walk_at "dd") => `(tactic| repeat walk_at "d")
local macro_rules | `(tactic| walk_at "tx") => `(tactic| simp only [l_dash, l_dot, l_nil, l_space, l_figs, l_signs])

variable {P : Program} {w : World} {K : PySem.W.Frag} {mg : Str → Option Value} {base : Heap} {S : Sto} {Ex : XS} {Q : QO}
def planF (rs : List (List Nat)) : List (Str × D) := [("rows", .tup (rs.map tx)), ("longest", .int ((rs.length : Nat) - 1 : Int)), ("classes", .int (cls rs).length)]
abbrev planD (rs : List (List Nat)) : D := .ins "Plan" (planF rs)
theorem plan_rl {rs : List (List Nat)} (h : Plan rs) : ∀ r ∈ rs, r.length ≤ 21 := fun r hr => by
  obtain ⟨i, hi, e⟩ := List.getElem_of_mem hr
  have h1 := h.ok.len i hi
  have h2 := h.ok.most
  rw [List.getD_eq_getElem?_getD, List.getElem?_eq_getElem hi] at h1
  replace h1 : rs[i].length = i + 1 := h1
  rw [e] at h1
  omega
theorem ok_Plan (T : Tx K mg) {rs : List (List Nat)} (h : Plan rs) (q : Q (.v (planD rs)) S) : sFun (bs P w K mg base) 5 (.ref (He.ga K "Plan")) [] (rs.map tx) [] S Ex Q := by
  have most := h.ok.most
  refine' call_m (B := bs P w K mg base) 3 T.mk_Plan (Classical.choose_spec T.d_Plan__init) sc_Plan__init rfl (bm_star (ps := ["self"]) (pv := "rows") (Classical.choose_spec T.d_Plan__init) (by decide) (fun _ _ _ _ _ _ us rest hl => match us, rest, hl with | [_], [], _ => rfl | [_], _ :: _, _ => rfl)) (dss_cons (ds_expr (de_call rfl rfl ⟨T.g_check_rows, (Classical.choose_spec T.d_check_rows).kp⟩ (da_cons (dv 1) da_nil))) (dss_cons (dst 2 (de_call rfl rfl ⟨T.g_find_sinking, (Classical.choose_spec T.d_find_sinking).kp⟩ (da_cons (dv 1) da_nil))) (dss_cons (ds_if (dt_cmp (dv 2) de_non) (dss_one ds_never) dss_nil) (dss_cons (ds_self (i := 0) rfl (.inl rfl) (dv 1)) (dss_cons (ds_self (i := 0) rfl (.inl rfl) (de_bin (de_callB (id := "len") rfl T.f_len (by decide +kernel) (da_cons (dv 1) da_nil)) de_int)) (dss_one (ds_self (i := 0) rfl (.inl rfl) (de_call rfl rfl ⟨T.g_count_classes, (Classical.choose_spec T.d_count_classes).kp⟩ (da_cons (dv 1) da_nil))))))))) ?ok ?st ?_
  case st => walk_at "start"
  case ok => exact ⟨Nat.zero_le _, by rw [List.length_map, sizeLine_eq]; show rs.length - 0 ≤ _; omega, rfl⟩
  walk_at "dd"
  refine (ok_check_rows T h.ok ?_).mono (Nat.le_of_ble_eq_true rfl)
  walk_at "dd"
  refine (ok_find_sinking T h ?_).mono (Nat.le_of_ble_eq_true rfl)
  walk_at "dd"
  refine' f_fldS ?e1 T.cl_Plan T.n_Plan_rows ?l1 ?_
  case e1 => exact rfl
  case l1 => decide
  walk_at "dd"
  refine ⟨_, _, _, rfl, rfl, T.cl_Plan, T.n_Plan_longest, Nat.le_of_ble_eq_true rfl, ?_⟩
  walk_at "dd"
  refine (ok_count_classes T most (plan_rl h) sqT ?_).mono (Nat.le_of_ble_eq_true rfl)
  walk_at "dd"
  refine ⟨_, _, _, rfl, rfl, T.cl_Plan, T.n_Plan_classes, Nat.le_of_ble_eq_true rfl, ?_⟩
  refine ⟨_, rfl, .inl ?_⟩
  have e : ((rs.map tx).drop 0).length = rs.length := by
    show (rs.map tx).length = _
    rw [List.length_map]
  unfold planD planF at q
  rw [← e] at q
  exact q
theorem join_len : ∀ rs : List (List Nat), (TL.joinL [32] rs).length ≤ (rs.map (·.length)).sum + rs.length
  | [] => Nat.zero_le _
  | [p] => by simp [TL.joinL]
  | p :: q :: r => by
    have ih := join_len (q :: r)
    show (p ++ ([32] ++ TL.joinL [32] (q :: r))).length ≤ _
    rw [List.length_append, List.length_append, List.map_cons, List.sum_cons, List.length_cons, List.length_cons, List.length_cons]
    rw [List.length_cons] at ih
    simp only [List.length_nil]
    omega
theorem sign_of {rs : List (List Nat)} (h : Ok rs) : ∀ r ∈ rs, ∀ c ∈ r, isS c = true ∨ c = 46 := fun r hr c hc => by
  obtain ⟨i, hi, e⟩ := List.getElem_of_mem hr
  obtain ⟨k, hk, ek⟩ := List.getElem_of_mem hc
  have h1 := h.len i hi
  have eg : rs.getD i [] = r := by
    rw [List.getD_eq_getElem?_getD, List.getElem?_eq_getElem hi]
    exact e
  rw [eg] at h1
  have g := sgn_kind h hi (show k ≤ i by omega)
  unfold sgn at g
  rw [eg, List.getD_eq_getElem?_getD, List.getElem?_eq_getElem hk] at g
  replace g : isS r[k] = true ∨ r[k] = 46 := g
  rw [ek] at g
  exact g
theorem ok_read (T : Tx K mg) {rs : List (List Nat)} (h : Plan rs) (q : Q (.v (planD rs)) S) : sFun (bs P w K mg base) 6 (.ref (Hk.wfA "Plan" "classmethod" "read" K)) [] [.cls "Plan", tx (TL.joinL [32] rs)] [] S Ex Q := by
  have most := h.ok.most
  refine' call_d (B := bs P w K mg base) 5 (Classical.choose_spec T.d_Plan_read) sc_Plan_read rfl (bm_all (ps := ["cls", "text"]) (Classical.choose_spec T.d_Plan_read) (fun _ _ _ _ _ _ us hl => match us, hl with | [_, _], _ => rfl)) (dss_cons (dst 2 (de_if (dt_val (de_callB (id := "isinstance") rfl T.f_isinstance (by decide +kernel) (da_cons (dv 1) (da_cons (de_ty (n := "str") rfl T.f_str (by decide +kernel)) da_nil)))) (de_bm PySem.F.plainAttrs_str PySem.F.slot_str_split PySem.F.type_str_split (dv 1) (da_cons de_str da_nil)) (de_lstV da_nil))) (dss_cons (ds_try rfl rfl (dss_one (dst 3 (de_callLS (i := 0) rfl rfl (.inl rfl) (dv 2)))) (.cons (.two rfl T.g_InvalidRows rfl rfl T.g_NotRising rfl) .no (dss_one ds_never) DHs.nil)) (dss_one (ds_ret (dv 3))))) ⟨rfl, rfl⟩ ?st ?_
  case st => walk_at "start"
  walk_at "tx"
  walk_at "dd"
  refine c_isi (tyK (T := "str") rfl) rfl T.i_SS ?_
  walk_at "dd"
  have jl := join_len rs
  have sr := sum_rows rs 21 (plan_rl h)
  have sp : TL.spl [32] 0 [] (TL.joinL [32] rs) = rs := TL.spl_join (fun z => by have := h.ok.two; rw [z] at this; exact absurd this (by decide)) fun p hp z => by
    rcases sign_of h.ok p hp 32 z with y | y
    · cases y
    · cases y
  refine m_split (by decide) (by omega) (.inl ?_)
  rw [sp]
  walk_at "dd"
  refine ⟨.cls "Plan", .ref (He.ga K "Plan"), rfl, rfl, T.mk_Plan.kp, ?_⟩
  walk_at "dd"
  refine ⟨_, sqL, ok_Plan T h ?_⟩
  walk_at "dd"
  exact q
end Toy

set_option Elab.async false
set_option linter.all false
set_option maxRecDepth 100000
set_option maxHeartbeats 8000000
namespace Toy
open PySem PySem.Spec PyProof.Rows L2 My Dt SX Pln
local macro_rules | `(tactic| walk_at "rg") => `(tactic| first
  | omega
  | ((refine And.intro ?_ (And.intro ?_ (And.intro ?_ ?_))) <;> omega))
local macro_rules | `(tactic| walk_at "ls") => `(tactic| first
  | with_reducible exact ls_v
  | with_reducible exact ls_b
  | ((with_reducible refine' ls_p ?hlp); (case hlp => with_reducible assumption)))
local macro_rules | `(tactic| walk_at "start") => `(tactic| ((simp only [startM, startS, List.map_cons, List.map_nil, List.length_cons, List.length_nil, List.cons_append, List.nil_append, Nat.reduceAdd, Nat.reduceSub, List.replicate_succ, List.replicate_zero]); exact rfl))
local macro_rules | `(tactic| walk_at "set") => `(tactic| first
  | ((dsimp only [Int.reduceToNat, List.set_cons_zero, List.set_cons_succ, VO.sl]); done)
  | ((dsimp only [Int.reduceToNat, List.set_cons_zero, List.set_cons_succ, VO.sl]); exact rfl)
  | exact rfl)
local macro_rules | `(tactic| walk_at "sz") => `(tactic| first
  | exact sz_of (Nat.le_of_ble_eq_true rfl)
  | (apply sz_of; simp only [List.length_cons, List.length_nil, List.length_append, List.length_map]; omega))
local macro_rules | `(tactic| walk_at "side") => `(tactic| first
  | with_reducible assumption
  | omega
  | exact ml (by omega) (by omega)
  | exact mr (by omega) (by omega)
  | exact dv (by omega) (by omega)
  | exact Bd.mulOk (by with_reducible assumption) (by with_reducible assumption) (by decide) (by decide) (by decide)
  | exact Bd.div (by with_reducible assumption) (by omega) (by decide) (by decide)
  | (show (0 : Int) < _; omega)
  | exact ⟨by decide, by decide, by decide⟩
  | decide
  | exact rfl)
local macro_rules | `(tactic| walk_at "st") => `(tactic| first
  | with_reducible refine q_seq ?_
  | with_reducible refine q_end ?_
  | with_reducible refine q_nil ?_
  | with_reducible refine q_asg ?_
  | with_reducible refine q_ret ?_
  | with_reducible refine q_if ?_
  | with_reducible refine q_expr ?_
  | with_reducible refine q_retN ?_
  | with_reducible refine q_sub ?_
  | with_reducible refine q_for ?_
  | with_reducible refine q_par ?_
  | with_reducible refine q_par3 ?_
  | with_reducible refine q_parV ?_
  | with_reducible refine q_parV3 ?_
  | with_reducible refine q_asgF ?_
  | with_reducible refine q_asgC ?_
  | ((with_reducible refine' q_frz ?ef ?_); (case ef => exact rfl))
  | ((with_reducible refine' q_app ?ea ?eb ?_); (case ea => exact rfl); (case eb => walk_at "slen"))
  | with_reducible refine q_brk ?_
  | with_reducible refine q_cnt ?_
  | with_reducible refine q_fldS ?_
  | with_reducible refine q_fldP ?_
  | with_reducible refine q_raise ?_
  | with_reducible refine q_try ?_)
local macro_rules | `(tactic| walk_at "slen") => `(tactic| first
  | with_reducible assumption
  | ((rw [sizeLine_eq]); (simp only [List.length_cons, List.length_nil, List.length_append, List.length_map]); omega))
local macro_rules | `(tactic| walk_at "sm") => `(tactic| first
  | with_reducible refine s_add ?_
  | with_reducible refine s_sub ?_
  | ((with_reducible refine' s_mul ?hm ?_); (case hm => walk_at "side"))
  | ((with_reducible refine' s_fdiv ?hm ?_); (case hm => walk_at "side"))
  | ((with_reducible refine' s_mod ?hm ?_); (case hm => walk_at "side"))
  | with_reducible refine s_neg ?_
  | ((with_reducible refine' s_pow ?hm ?_); (case hm => walk_at "side"))
  | ((with_reducible refine' s_ixL ?hl ?he ?_); (case hl => walk_at "ls"); (case he => exact rfl))
  | ((with_reducible refine' s_ixT ?he ?_); (case he => exact rfl))
  | ((with_reducible refine' set_L2 ?ha ?hb ?hc ?_); (case ha => with_reducible assumption); (case hb => exact rfl); (case hc => walk_at "set"))
  | with_reducible refine s_addB ?_
  | with_reducible refine s_lt ?_
  | with_reducible refine s_le ?_
  | with_reducible refine s_gt ?_
  | with_reducible refine s_ge ?_
  | with_reducible refine s_eq ?_
  | with_reducible refine s_ne ?_
  | with_reducible refine s_eqS ?_
  | with_reducible refine s_neS ?_
  | with_reducible refine s_isN ?_
  | with_reducible refine s_isNotN ?_
  | with_reducible refine t_bl ?_)
local macro_rules | `(tactic| walk_at "cl") => `(tactic| first
  | with_reducible refine c_int ?_
  | with_reducible refine c_intB ?_
  | with_reducible refine c_abs ?_
  | ((with_reducible refine' c_max ?hm ?_); (case hm => exact rfl))
  | ((with_reducible refine' c_min ?hm ?_); (case hm => exact rfl))
  | ((with_reducible refine' c_divmod ?hm ?_); (case hm => walk_at "side"))
  | ((with_reducible refine' c_len ?hm ?_); (case hm => walk_at "sq"))
  | ((with_reducible refine' c_list ?hm ?_); (case hm => walk_at "sq"))
  | ((with_reducible refine' c_tuple ?hm ?_); (case hm => walk_at "sq")))
local macro_rules | `(tactic| walk_at "sq") => `(tactic| first
  | exact sqL
  | exact sqT
  | exact sqB
  | exact sqP (by with_reducible assumption))
local macro_rules | `(tactic| walk_at "v") => `(tactic| first
  | ((with_reducible refine' v_sh ?ev ?_); (case ev => exact rfl))
  | ((with_reducible refine' v_ol ?ev ?_); (case ev => exact rfl))
  | ((with_reducible refine' v_slf ?ev ?_); (case ev => exact rfl))
  | with_reducible refine q_val ?_
  | ((with_reducible refine' q_walk ?ew ?_); (case ew => exact rfl))
  | ((with_reducible refine' q_rng1 ?ej ?ek ?_); (case ej => walk_at "rg"); (case ek => walk_at "rg"))
  | ((with_reducible refine' q_rng2 ?ej ?_); (case ej => walk_at "rg"))
  | with_reducible refine q_rngL ?_
  | with_reducible refine q_solc ?_
  | with_reducible refine q_sol0 ?_
  | ((with_reducible refine' q_gname ?eg ?_); (case eg => walk_at "set"))
  | ((with_reducible refine' n_set ?eg ?_); (case eg => walk_at "set"))
  | ((with_reducible refine' n_set2 ?eg ?_); (case eg => walk_at "set"))
  | ((with_reducible refine' n_set3 ?eg ?_); (case eg => walk_at "set"))
  | with_reducible refine q_two ?_
  | with_reducible refine q_three ?_
  | with_reducible refine q_vv ?_
  | with_reducible refine q_isS ?_
  | with_reducible refine q_isL ?_
  | with_reducible refine q_twoV ?_
  | with_reducible refine q_threeV ?_
  | with_reducible refine q_bl ?_
  | with_reducible refine q_oint ?_
  | ((with_reducible refine' q_gtup ?el ?_); (case el => exact rfl))
  | with_reducible refine q_gcons ?_
  | with_reducible refine q_gnil ?_
  | with_reducible refine i_t ?_
  | with_reducible refine i_f ?_
  | with_reducible refine i_nt ?_
  | with_reducible refine i_nf ?_
  | ((with_reducible refine' n_t ?en ?_); (case en => exact rfl))
  | ((with_reducible refine' n_f ?en ?_); (case en => exact rfl))
  | ((with_reducible refine' nn_t ?en ?_); (case en => exact rfl))
  | ((with_reducible refine' nn_f ?en ?_); (case en => exact rfl))
  | with_reducible refine And.intro (by walk_at "sz") ?_)
local macro_rules | `(tactic| walk_at "d") => `(tactic| first
  | walk_at "v"
  | walk_at "st"
  | walk_at "sm"
  | walk_at "cl"
  | walk_at "at")
local macro_rules | `(tactic| walk_at "dd") => `(tactic| repeat walk_at "d")
local macro_rules | `(tactic| walk_at "tx") => `(tactic| simp only [l_dash, l_dot, l_nil, l_space, l_figs, l_signs])

variable {P : Program} {w : World} {K : PySem.W.Frag} {mg : Str → Option Value} {base : Heap} {S : Sto} {Ex : XS} {Q : QO}

/-! the store: all but some cells stay -/
def Kp (L : List Nat) (S S' : Sto) : Prop := ∀ (i : Nat) (x : Cell), i ∉ L → S[i]? = some x → S'[i]? = some x
theorem Kp.refl {L : List Nat} {S : Sto} : Kp L S S := fun _ _ _ h => h
theorem Kp.trans {L : List Nat} {S S1 S2 : Sto} (x : Kp L S S1) (y : Kp L S1 S2) : Kp L S S2 := fun i z h e => y i z h (x i z h e)
theorem Kp.mono {L M : List Nat} {S S' : Sto} (x : Kp L S S') (h : ∀ i ∈ L, i ∈ M) : Kp M S S' := fun i z g e => x i z (fun q => g (h i q)) e
theorem Kp.bt {n : Nat} {S S' : Sto} (b : Bt n S S') : Kp [n] S S' := fun i z h e => (b.at_ i (fun q => h (by rw [q]; exact .head _))).trans e
theorem Kp.app {L : List Nat} {S c : Sto} : Kp L S (S ++ c) := fun i z _ e => by
  rw [List.getElem?_append_left (List.getElem?_eq_some_iff.mp e).1]
  exact e
theorem Kp.set {L : List Nat} {S S1 : Sto} {j : Nat} {c : Cell} (x : Kp L S S1) (h : S.length ≤ j) : Kp L S (S1.set j c) := fun i z g e => by
  have := (List.getElem?_eq_some_iff.mp e).1
  rw [List.getElem?_set_ne (by omega)]
  exact x i z g e
theorem Kp.new {L : List Nat} {S S1 S2 : Sto} {j : Nat} (x : Kp L S S1) (b : Bt j S1 S2) (h : S.length ≤ j) : Kp L S S2 := fun i z g e => by
  have := (List.getElem?_eq_some_iff.mp e).1
  exact (b.at_ i (by omega)).trans (x i z g e)
theorem Bag.kp {L : List Nat} {S S' : Sto} {n : Nat} (h : Bag S n) (x : Kp L S S') (h1 : n ∉ L) : Bag S' n := by
  obtain ⟨a, b, c, e, r⟩ := h
  exact ⟨a, b, c, x _ _ h1 e, r⟩
theorem Bag.lt {S : Sto} {n : Nat} (h : Bag S n) : n < S.length := by
  obtain ⟨a, b, c, e, r⟩ := h
  exact (List.getElem?_eq_some_iff.mp e).1
/-- a statement whose ways meet again -/
theorem join_S {α : Type} {X rest : Dt.RS} {nx0 bk ct : List Sl → Sto → Prop} {rt : D → List Sl → Sto → Prop} {ex : XD} {ρ : List Sl} {S : Sto} (P : α → Sto → Prop) (R : α → List Sl) (key : ∀ a S', P a S' → rest ⟨nx0, rt, bk, ct, ex⟩ (R a) S') (h : ∀ nx : List Sl → Sto → Prop, (∀ a S', P a S' → nx (R a) S') → X ⟨nx, rt, bk, ct, ex⟩ ρ S) : dSeq X rest ⟨nx0, rt, bk, ct, ex⟩ ρ S := ⟨ρ, .refl, h _ key⟩
/-- `c and A` as a value -/
theorem j_and {c : Prop} [Decidable c] {A : RE} {ρ : List Sl} {S : Sto} {E : XD} {C : QO} (P : Bool → Sto → Prop) (key : ∀ b S', P b S' → C (.v (.bl b)) S') (t : c → ∀ C : QO, (∀ b S', P b S' → C (.v (.bl b)) S') → A ρ S E C) (e : ¬c → P false S) : if decide c = true then A ρ S E C else C (.v (.bl (decide c))) S := by
  by_cases h : c
  · rw [decide_eq_true h, if_pos rfl]
    exact t h _ key
  · rw [decide_eq_false h, if_neg Bool.false_ne_true]
    exact key _ _ (e h)
/-- within `_law_rows`: the bag, the rows so far, all else stays -/
structure RS (n : Nat) (S S' : Sto) (rs : List (List Nat)) : Prop where
  bag : Bag S' n
  kp : Kp [n] S S'
  told : S'[S.length]? = some (.lst (rs.map tx))
theorem RS.bt {n : Nat} {S S1 S2 : Sto} {rs : List (List Nat)} (h : RS n S S1 rs) (hn : n < S.length) (b : Bag S2 n) (x : Bt n S1 S2) : RS n S S2 rs := ⟨b, h.kp.trans (.bt x), (x.at_ _ (by omega)).trans h.told⟩
theorem RS.app {n : Nat} {S S1 c : Sto} {rs : List (List Nat)} (h : RS n S S1 rs) : RS n S (S1 ++ c) rs := ⟨h.bag.kp (L := []) .app (by simp), h.kp.trans .app, Kp.app (L := []) _ _ (by simp) h.told⟩
theorem RS.other {n j : Nat} {S S1 S2 : Sto} {rs : List (List Nat)} (h : RS n S S1 rs) (hn : n < S.length) (hj : S.length < j) (x : Bt j S1 S2) : RS n S S2 rs := ⟨h.bag.kp (.bt x) (by simp; omega), h.kp.new x (by omega), (x.at_ _ (by omega)).trans h.told⟩
theorem rep_flat {α : Type} (n : Nat) (x : α) : (List.replicate n [x]).flatten = List.replicate n x := by
  induction n with
  | zero => rfl
  | succ n ih => rw [List.replicate_succ, List.flatten_cons, ih, List.replicate_succ] <;> rfl
abbrev sgT (c : Nat) : D := tx [c]
theorem cells_put {m j v : Nat} {cs : List Nat} (cl : cs.length = j) (hj : j < m) : ((cs.map fun c => sgT (48 + c)) ++ List.replicate (m - j) (sgT 45)).set j (sgT (48 + v)) = ((cs ++ [v]).map fun c => sgT (48 + c)) ++ List.replicate (m - (j + 1)) (sgT 45) := by
  rw [show m - j = (m - (j + 1)) + 1 by omega, List.replicate_succ, List.set_append_right _ _ (by rw [List.length_map]; omega), List.length_map, cl, Nat.sub_self, List.set_cons_zero, List.map_append, List.append_assoc] <;> rfl
theorem asc_put {cs : List Nat} {v : Nat} (asc : cs.Pairwise (· ≤ ·)) (h : ∀ c ∈ cs, c ≤ v) : (cs ++ [v]).Pairwise (· ≤ ·) := List.pairwise_append.mpr ⟨asc, List.pairwise_singleton _ _, fun a ha b hb => by rw [List.mem_singleton.mp hb]; exact h a ha⟩
/-- the classes' names -/
def nmKV (ks : List Nat) (M : Nat) : List (Key × D) := (List.range ks.length).map fun i => (.inr (SX.S [48 + ks.getD i 0]), tx [48 + min i (M - 1)])
theorem nm_keys {ks : List Nat} {M : Nat} : (nmKV ks M).map (·.1) = (places ks).map (·.1) := by
  unfold nmKV places
  rw [List.map_map, List.map_map] <;> rfl
theorem nm_nd {ks : List Nat} {M : Nat} (p : ks.Pairwise (· < ·)) : ((nmKV ks M).map (·.1)).Nodup := by
  rw [nm_keys]
  exact places_nd p
theorem nm_at {ks : List Nat} {M : Nat} (p : ks.Pairwise (· < ·)) {c : Nat} (h : 48 ≤ c ∧ c ≤ 55 → c - 48 ∈ ks) (lt8 : ∀ n ∈ ks, n < 8) : (valD (nmKV ks M) (.inr (SX.S [c]))).getD (tx [c]) = tx [numF (fun n => min (rho ks n) (M - 1)) c] := by
  by_cases h48 : 48 ≤ c ∧ c ≤ 55
  · obtain ⟨h1, h2⟩ := rho_lt p (h h48)
    have e : valD (nmKV ks M) (.inr (SX.S [c])) = some (tx [48 + min (rho ks (c - 48)) (M - 1)]) := by
      refine valD_of (i := rho ks (c - 48)) (nm_nd p) ?_
      unfold nmKV
      rw [List.getElem?_map, List.getElem?_range h1]
      have : ks.getD (rho ks (c - 48)) 0 = c - 48 := by rw [List.getD_eq_getElem?_getD, h2] <;> rfl
      show some ((Sum.inr (SX.S [48 + ks.getD (rho ks (c - 48)) 0]) : Key), tx [48 + min (rho ks (c - 48)) (M - 1)]) = _
      rw [this, show 48 + (c - 48) = c by omega]
    rw [e]
    unfold numF
    rw [if_pos h48] <;> rfl
  · have e : valD (nmKV ks M) (.inr (SX.S [c])) = none := by
      refine valD_no fun z => ?_
      rw [nm_keys] at z
      unfold places at z
      rw [List.map_map] at z
      obtain ⟨i, hi, e⟩ := List.mem_map.mp z
      have hi := List.mem_range.mp hi
      have e2 := (List.cons.inj (S_inj (Sum.inr.inj e))).1
      have mem : ks.getD i 0 ∈ ks := by
        rw [List.getD_eq_getElem?_getD, List.getElem?_eq_getElem hi]
        exact List.getElem_mem hi
      have := lt8 _ mem
      omega
    rw [e]
    unfold numF
    rw [if_neg h48] <;> rfl
theorem nm_put {ks : List Nat} {M i : Nat} (p : ks.Pairwise (· < ·)) (hi : i < ks.length) : putKD ((nmKV ks M).take i) (.inr (SX.S [48 + ks.getD i 0])) (tx [48 + min i (M - 1)]) = (nmKV ks M).take (i + 1) := by
  have hx : (nmKV ks M)[i]? = some (.inr (SX.S [48 + ks.getD i 0]), tx [48 + min i (M - 1)]) := by
    unfold nmKV
    rw [List.getElem?_map, List.getElem?_range hi] <;> rfl
  have nd := nm_nd (M := M) p
  unfold putKD
  rw [if_neg, List.take_add_one, hx]
  · rfl
  · intro z
    obtain ⟨q, hq, e⟩ := List.any_eq_true.mp z
    have e := of_decide_eq_true e
    obtain ⟨hl, ex⟩ := List.getElem?_eq_some_iff.mp hx
    have sp : nmKV ks M = (nmKV ks M).take i ++ (nmKV ks M)[i] :: (nmKV ks M).drop (i + 1) := by rw [← List.drop_eq_getElem_cons hl, List.take_append_drop]
    rw [sp, ex, List.map_append, List.map_cons] at nd
    exact (List.nodup_append.mp nd).2.2 q.1 (List.mem_map.mpr ⟨q, hq, rfl⟩) _ (.head _) e
theorem l_figs8 : ([48, 49, 50, 51, 52, 53, 54, 55] : List Nat) = (List.range 8).map fun n => 48 + n := rfl
theorem ok_rows (T : Tx K mg) {n L M : Nat} (h : Bag S n) (hL0 : 1 ≤ L) (hL : L ≤ 20) (hM : 2 ≤ M) (hM8 : M ≤ 8) (q : ∀ (rs : List (List Nat)) (S' : Sto), Plan rs → rs.length = L + 1 → Bag S' n → Kp [n] S S' → Q (.v (.lst (rs.map tx))) S') :
    sFun (bs P w K mg base) 2 (.ref (He.ga K "_law_rows")) [] [.ptr n, .int L, .int M] [] S Ex Q := by
  refine' call_d (B := bs P w K mg base) 1 (Classical.choose_spec T.d_law_rows) sc_law_rows rfl (bm_all (ps := ["_law_bag_here", "_law_tall", "_law_most"]) (Classical.choose_spec T.d_law_rows) (fun _ _ _ _ _ _ us hl => match us, hl with | [_, _, _], _ => rfl)) (dss_cons (ds_asgS (de_tup (da_cons (de_lstP (da_cons de_str da_nil)) (da_cons de_int (da_cons de_int (da_cons de_int (da_cons de_int da_nil)))))) (dg_tup (n := 5) rfl (dgs_cons (dgn 3) (dgs_cons (dgn 4) (dgs_cons (dgn 5) (dgs_cons (dgn 6) (dgs_cons (dgn 7) dgs_nil)))))) (fun env h => by cases env; cases h; rfl)) (dss_cons (ds_for rfl rfl (di_range2 rfl T.f_range (da_cons de_int (da_cons (de_bin (dv 1) de_int) da_nil))) (dgn 8) (dss_cons (ds_par (i := 9) (j := 10) rfl rfl rfl (by decide) rfl rfl (da_cons (dv 4) (da_cons (de_bin (dv 5) de_int) da_nil)) (fun env h => by cases env; cases h; rfl)) (dss_cons (dst 11 (de_bin (de_lstP (da_cons de_str da_nil)) (de_bin (de_bin (dv 10) (dv 9)) de_int))) (dss_cons (ds_if (dt_cmp (dv 8) (dv 1)) (dss_cons (dst 12 (dv 6)) (dss_one (ds_for rfl rfl (di_range1 rfl T.f_range (da_cons (de_callB (id := "len") rfl T.f_len (by decide +kernel) (da_cons (dv 11) da_nil)) da_nil)) (dgn 13) (dss_cons (dst 12 (de_bin (dv 12) (de_call rfl rfl ⟨T.g_law_take, (Classical.choose_spec T.d_law_take).kp⟩ (da_cons (dv 0) (da_cons de_int da_nil))))) (dss_cons (dst 12 (de_if (dt_cmp (dv 12) (dv 7)) (dv 7) (dv 12))) (dss_one (ds_sub (dv 11) (dv 13) (de_callT (T := "str") rfl T.f_str (by decide +kernel) (da_cons (dv 12) da_nil))))))))) dss_nil) (dss_cons (dst 14 (de_if (DW.dt (dw_and (dt_cmp (dv 8) (dv 1)) (dw_and1 (dt_cmp (de_call rfl rfl ⟨T.g_law_take, (Classical.choose_spec T.d_law_take).kp⟩ (da_cons (dv 0) (da_cons de_int da_nil))) de_int)))) (de_bin de_int (de_call rfl rfl ⟨T.g_law_take, (Classical.choose_spec T.d_law_take).kp⟩ (da_cons (dv 0) (da_cons de_int da_nil)))) de_int)) (dss_cons (ds_if (dt_chain de_int (dv 14) (de_callB (id := "len") rfl T.f_len (by decide +kernel) (da_cons (dv 11) da_nil))) (dss_cons (dst 6 (de_bin (dv 6) (de_callT (T := "int") rfl T.f_int (by decide +kernel) (da_cons (de_and (de_cmp (dv 6) de_int) (de_one (de_cmp (de_call rfl rfl ⟨T.g_law_take, (Classical.choose_spec T.d_law_take).kp⟩ (da_cons (dv 0) (da_cons de_int da_nil))) de_int))) da_nil)))) (dss_cons (ds_setSlG (de_bin (de_lstV (da_cons (de_callT (T := "str") rfl T.f_str (by decide +kernel) (da_cons (dv 6) da_nil)) da_nil)) (dv 14)) (dv 11) do_no (do_some (dv 14))) (dss_one (dst 4 (de_bin (dv 9) (dv 14)))))) (dss_one (dst 4 (dv 9)))) (dss_cons (dst 15 (de_if (DW.dt (dw_and (dt_cmp (dv 8) (dv 1)) (dw_and1 (dt_cmp (de_call rfl rfl ⟨T.g_law_take, (Classical.choose_spec T.d_law_take).kp⟩ (da_cons (dv 0) (da_cons de_int da_nil))) de_int)))) (de_bin de_int (de_call rfl rfl ⟨T.g_law_take, (Classical.choose_spec T.d_law_take).kp⟩ (da_cons (dv 0) (da_cons de_int da_nil)))) de_int)) (dss_cons (ds_if (dt_chain de_int (dv 15) (de_bin (de_bin (dv 10) (dv 4)) de_int)) (dss_cons (dst 7 (de_bin (dv 7) (de_callT (T := "int") rfl T.f_int (by decide +kernel) (da_cons (de_and (de_cmp (dv 7) de_int) (de_one (de_cmp (de_call rfl rfl ⟨T.g_law_take, (Classical.choose_spec T.d_law_take).kp⟩ (da_cons (dv 0) (da_cons de_int da_nil))) de_int))) da_nil)))) (dss_cons (ds_setSlG (de_bin (de_lstV (da_cons (de_callT (T := "str") rfl T.f_str (by decide +kernel) (da_cons (dv 7) da_nil)) da_nil)) (dv 15)) (dv 11) (do_some (de_bin (de_callB (id := "len") rfl T.f_len (by decide +kernel) (da_cons (dv 11) da_nil)) (dv 15))) do_no) (dss_one (dst 5 (de_bin (dv 10) (dv 15)))))) (dss_one (dst 5 (dv 10)))) (dss_one (ds_expr (de_bm PySem.F.plainAttrs_list PySem.F.slot_list_append PySem.F.type_list_append (dv 3) (da_cons (de_bin (de_bin (de_bin de_str (dv 9)) (de_bm PySem.F.plainAttrs_str PySem.F.slot_str_join PySem.F.type_str_join de_str (da_cons (dv 11) da_nil))) (de_bin de_str (de_bin (dv 8) (dv 10)))) da_nil)))))))))))) (dss_cons (ds_setLc (i := 16) (own := [("_law_sign", 18)]) rfl (by decide) rfl rfl (fun _ h => sw_true (by rw [h]; rfl) (by rw [h]; rfl) rfl (by decide +kernel)) (di_val de_str) (blkOk_by (N := ["_law_bag_here", "_law_tall", "_law_most", "_law_told", "_law_low", "_law_high", "_law_least", "_law_top", "_law_m", "_law_first", "_law_last", "_law_cells", "_law_now", "_law_k", "_law_few", "_law_many_here", "_law_used", "_law_names", "_law_sign", "_law_row"]) (sc := defScope s_law_rows) (by decide +kernel)) (dgn 18) (dts_one (dt_cmp (dv 18) (de_bm PySem.F.plainAttrs_str PySem.F.slot_str_join PySem.F.type_str_join de_str (da_cons (dv 3) da_nil)))) (dv 18)) (dss_frz 16 (dss_cons (ds_if (dt_cmp (de_callB (id := "len") rfl T.f_len (by decide +kernel) (da_cons (dv 16) da_nil)) de_int) (dss_one (ds_ret (de_bin (DF.de (df_lc (own := [("_law_m", 8)]) rfl (by decide) (di_range1 rfl T.f_range (da_cons (dv 1) da_nil)) (blkOk_by (N := ["_law_bag_here", "_law_tall", "_law_most", "_law_told", "_law_low", "_law_high", "_law_least", "_law_top", "_law_m", "_law_first", "_law_last", "_law_cells", "_law_now", "_law_k", "_law_few", "_law_many_here", "_law_used", "_law_names", "_law_sign", "_law_row"]) (sc := defScope s_law_rows) (by decide +kernel)) (dgn 8) dts_nil (de_bin de_str (de_bin (dv 8) de_int)))) (de_lstV (da_cons (de_bin de_str (de_bin de_str (dv 1))) da_nil))))) dss_nil) (dss_cons (dst 17 de_dnew) (dss_cons (ds_for rfl rfl (di_range1 rfl T.f_range (da_cons (de_callB (id := "len") rfl T.f_len (by decide +kernel) (da_cons (dv 16) da_nil)) da_nil)) (dgn 13) (dss_one (ds_sub (dv 17) (de_ix (dv 16) (dv 13) (fun _ _ => rfl)) (de_callT (T := "str") rfl T.f_str (by decide +kernel) (da_cons (de_if (dt_cmp (dv 13) (dv 2)) (dv 13) (de_bin (dv 2) de_int)) da_nil))))) (dss_one (ds_ret (DF.de (df_lcS (own := [("_law_row", 19)]) rfl (by decide) (dis_val (dv 3)) (blkOk_by (N := ["_law_bag_here", "_law_tall", "_law_most", "_law_told", "_law_low", "_law_high", "_law_least", "_law_top", "_law_m", "_law_first", "_law_last", "_law_cells", "_law_now", "_law_k", "_law_few", "_law_many_here", "_law_used", "_law_names", "_law_sign", "_law_row"]) (sc := defScope s_law_rows) (by decide +kernel)) (dgn 19) dts_nil (de_bm PySem.F.plainAttrs_str PySem.F.slot_str_join PySem.F.type_str_join de_str (da_cons (DF.de (df_lc (own := [("_law_sign", 18)]) rfl (by decide) (di_val (dv 19)) (blkOk_by (N := ["_law_bag_here", "_law_tall", "_law_most", "_law_told", "_law_low", "_law_high", "_law_least", "_law_top", "_law_m", "_law_first", "_law_last", "_law_cells", "_law_now", "_law_k", "_law_few", "_law_many_here", "_law_used", "_law_names", "_law_sign", "_law_row"]) (sc := relS _ (defScope s_law_rows)) (by decide +kernel)) (dgn 18) dts_nil (de_get2 (dv 17) (dv 18) (dv 18) (fun _ => ⟨rfl, rfl, rfl, rfl⟩)))) da_nil))))))))))))) ⟨rfl, rfl⟩ ?st ?_
  case st => walk_at "start"
  simp only [l_dash, l_dot, l_nil, l_figs]
  have hn := h.lt
  walk_at "dd"
  have r0 : RS n S (S ++ [.lst [tx [45]]]) [[45]] := ⟨h.kp (L := []) .app (by simp), .app, List.getElem?_concat_length⟩
  refine loop_inv (fun i ρ S' => i ≤ L ∧ ∃ (rs : List (List Nat)) (ws : List RB) (low high least top : Int) (x8 x9 x10 x11 x12 x13 x14 x15 : Sl), RS n S S' rs ∧ (i < L → Up rs ws ∧ ws.length = i + 1 ∧ low = ((ws.getD i rb0).f + (ws.getD i rb0).a : Nat) ∧ high = ((ws.getD i rb0).f + (ws.getD i rb0).a + (ws.getD i rb0).d : Nat) - 1 ∧ least = ((ws.getD i rb0).lo : Nat) ∧ top = ((ws.getD i rb0).hi : Nat) ∧ least ≤ 3 ∧ 4 ≤ top ∧ top ≤ 7) ∧ (i = L → ∃ cs, Sh rs ws cs ∧ ws.length = L) ∧
    ρ = [.sh (.ptr n), .sh (.int L), .sh (.int M), .sh (.ptr S.length), .sh (.int low), .sh (.int high), .sh (.int least), .sh (.int top), x8, x9, x10, x11, x12, x13, x14, x15, .un, .un, .un, .un]) ⟨Nat.zero_le _, [[45]], [rb0], 0, 0, 0, 7, _, _, _, _, _, _, _, _, r0, fun _ => ⟨up_one, rfl, rfl, rfl, rfl, rfl, by decide, by decide, by decide⟩, fun z => absurd z (by omega), rfl⟩ ?_ ?_
  · clear r0
    rintro i x ρ S1 Nx hx ⟨hi, rs, ws, low, high, least, top, x8, x9, x10, x11, x12, x13, x14, x15, r1, up, _, rfl⟩ hN
    obtain ⟨hi2, rfl⟩ := rngD_at hx
    have hi2 : i < L := by omega
    obtain ⟨u, wl, rfl, rfl, rfl, rfl, l3, t4, t7⟩ := up hi2
    clear up hx
    have one := u.one i (by omega)
    have ff := u.fit_ i (by omega)
    generalize hw : ws.getD i rb0 = w0 at *
    walk_at "dd"
    rw [show (((w0.f + w0.a + w0.d : Nat) : Int) - 1 + 1 - ((w0.f + w0.a : Nat) : Int) + 1) = ((w0.d + 1 : Nat) : Int) by omega]
    refine s_rep (ls_p List.getElem?_concat_length) (by omega) (by omega) (by rw [sizeLine_eq]; simp only [List.length_cons, List.length_nil]; omega) (.inr ?_)
    rw [Int.toNat_natCast, rep_flat]
    have r2 : RS n S (S1 ++ [Cell.lst [D.str (SX.S [45])]] ++ [.lst (List.replicate (w0.d + 1) (sgT 45))]) rs := r1.app.app
    have ec : (S1 ++ [Cell.lst [D.str (SX.S [45])]] ++ [.lst (List.replicate (w0.d + 1) (sgT 45))])[(S1 ++ [Cell.lst [D.str (SX.S [45])]]).length]? = some (.lst (List.replicate (w0.d + 1) (sgT 45))) := List.getElem?_concat_length
    have pg : S.length < (S1 ++ [Cell.lst [D.str (SX.S [45])]]).length := by
      have := (List.getElem?_eq_some_iff.mp r1.told).1
      rw [List.length_append]
      omega
    refine ⟨_, rfl, ?_⟩
    generalize S1 ++ [Cell.lst [D.str (SX.S [45])]] ++ [Cell.lst (List.replicate (w0.d + 1) (sgT 45))] = S2 at r2 ec ⊢
    generalize (S1 ++ [Cell.lst [D.str (SX.S [45])]]).length = pc at ec pg ⊢
    clear r1 S1
    walk_at "dd"
    refine i_two (fun c1 => ?_) fun c1 => ?_
    · have iL : i + 1 = L := by omega
      walk_at "dd"
      rw [List.length_replicate]
      walk_at "dd"
      refine loop_inv (fun j ρ S' => j ≤ w0.d + 1 ∧ ∃ (cs : List Nat) (now : Nat) (x13 : Sl), cs.length = j ∧ cs.Pairwise (· ≤ ·) ∧ (∀ c ∈ cs, w0.lo ≤ c ∧ c ≤ now) ∧ w0.lo ≤ now ∧ now ≤ w0.hi ∧ RS n S S' rs ∧ S'[pc]? = some (.lst ((cs.map fun c => sgT (48 + c)) ++ List.replicate (w0.d + 1 - j) (sgT 45))) ∧
        ρ = [.sh (.ptr n), .sh (.int L), .sh (.int M), .sh (.ptr S.length), .sh (.int (w0.f + w0.a : Nat)), .sh (.int (((w0.f + w0.a + w0.d : Nat) : Int) - 1)), .sh (.int w0.lo), .sh (.int w0.hi), .sh (.int (1 + (i : Int))), .sh (.int (w0.f + w0.a : Nat)), .sh (.int (((w0.f + w0.a + w0.d : Nat) : Int) - 1 + 1)), .sh (.ptr pc), .sh (.int now), x13, x14, x15, .un, .un, .un, .un]) ⟨Nat.zero_le _, [], w0.lo, _, rfl, List.Pairwise.nil, fun c hc => (by cases hc), Nat.le_refl _, one.2.1, r2, ec, rfl⟩ ?_ ?_
      · clear r2 ec
        rintro j x ρ S3 Nx hx ⟨hj, cs, now, x13, cl, asc, bnd, n1, n2, r3, e3, rfl⟩ hN2
        obtain ⟨hj2, rfl⟩ := rngD_at hx
        rw [Int.zero_add]
        walk_at "dd"
        refine (ok_take T r3.bag (by decide) (by decide) fun t S4 t0 t1 b4 x4 => ?_).mono (Nat.le_of_ble_eq_true rfl)
        have r4 := r3.bt hn b4 x4
        have e4 : S4[pc]? = _ := (x4.at_ _ (by omega)).trans e3
        clear r3 e3 x4 b4
        obtain ⟨t', rfl⟩ := Int.eq_ofNat_of_zero_le t0
        have fin : ∀ v : Nat, now ≤ v → v ≤ w0.hi → sSet (bs P w K mg base) 1 (O.v (D.ptr pc)) (O.v (D.int j)) (tx [48 + v]) S4 fun S5 => Nx [.sh (.ptr n), .sh (.int L), .sh (.int M), .sh (.ptr S.length), .sh (.int (w0.f + w0.a : Nat)), .sh (.int (((w0.f + w0.a + w0.d : Nat) : Int) - 1)), .sh (.int w0.lo), .sh (.int w0.hi), .sh (.int (1 + (i : Int))), .sh (.int (w0.f + w0.a : Nat)), .sh (.int (((w0.f + w0.a + w0.d : Nat) : Int) - 1 + 1)), .sh (.ptr pc), .sh (.int v), .sh (.int j), x14, x15, .un, .un, .un, .un] S5 := fun v v1 v2 =>
          set_L2 (l := j) e4 (by unfold L2.ixN; rw [if_pos (by omega), if_pos (by rw [List.length_append, List.length_map, List.length_replicate]; omega)]; exact rfl) (cells_put cl (by omega)) fun S5 e5 x5 => hN2 _ _ ⟨by omega, cs ++ [v], v, _, by rw [List.length_append, cl] <;> rfl, asc_put asc fun c hc => Nat.le_trans (bnd c hc).2 v1, fun c hc => by
            rcases List.mem_append.mp hc with z | z
            · exact ⟨(bnd c z).1, Nat.le_trans (bnd c z).2 v1⟩
            · rw [List.mem_singleton.mp z]
              omega, by omega, v2, r4.other hn pg x5, e5, rfl⟩
        walk_at "dd"
        refine i_two (fun c2 => ?_) fun c2 => ?_
        · walk_at "dd"
          refine c_strF (n := w0.hi) (by omega) ?_
          walk_at "dd"
          exact fin _ (by omega) (Nat.le_refl _)
        · walk_at "dd"
          rw [← Int.natCast_add]
          refine c_strF (n := now + t') (by omega) ?_
          walk_at "dd"
          exact fin _ (by omega) (by omega)
      · clear r2 ec
        rintro ρ S3 ⟨_, cs, now, x13, cl, asc, bnd, n1, n2, r3, e3, rfl⟩
        rw [rngD_len] at cl e3
        rw [Int.toNat_natCast] at cl e3
        rw [Nat.sub_self, List.replicate_zero, List.append_nil] at e3
        walk_at "dd"
        rw [decide_eq_false (show ¬ 1 + (i : Int) < L by omega)]
        walk_at "dd"
        rw [decide_eq_false (show ¬ (0 : Int) < 0 by decide)]
        walk_at "dd"
        rw [decide_eq_false (show ¬ 1 + (i : Int) < L by omega)]
        walk_at "dd"
        rw [decide_eq_false (show ¬ (0 : Int) < 0 by decide)]
        walk_at "dd"
        refine ⟨.inl ⟨rfl, _, r3.told⟩, ?_⟩
        have e4 : S3[pc]? = some (.lst ((cs.map (48 + ·)).map fun c => tx [c])) := by rw [e3, List.map_map] <;> rfl
        have rl : rs.length ≤ 30 := by have := u.len; omega
        walk_at "dd"
        refine s_mulT (by omega) (by omega) ?_
        walk_at "dd"
        refine m_join1 (l := cs.map (48 + ·)) (sqP e4) (by rw [List.length_map]; omega) ?_
        walk_at "dd"
        refine s_catTx (by rw [List.length_replicate, List.length_map]; omega) ?_
        walk_at "dd"
        refine s_mulT (by omega) (by omega) ?_
        walk_at "dd"
        refine s_catTx (by simp only [List.length_append, List.length_replicate, List.length_map]; omega) ?_
        walk_at "dd"
        refine m_append r3.told (by rw [sizeLine_eq, List.length_map]; omega) ?_
        have eR : List.replicate ((w0.f + w0.a : Nat) : Int).toNat 46 ++ cs.map (48 + ·) ++ List.replicate ((1 + (i : Int)) - (((w0.f + w0.a + w0.d : Nat) : Int) - 1 + 1)).toNat 46 = List.replicate (w0.f + w0.a) 46 ++ cs.map (48 + ·) ++ List.replicate (ws.length - (w0.f + w0.a + w0.d)) 46 := by
          rw [Int.toNat_natCast, show ((1 + (i : Int)) - (((w0.f + w0.a + w0.d : Nat) : Int) - 1 + 1)).toNat = ws.length - (w0.f + w0.a + w0.d) by omega]
        rw [eR]
        have sh := u.sh (cs := cs) (r := List.replicate (w0.f + w0.a) 46 ++ cs.map (48 + ·) ++ List.replicate (ws.length - (w0.f + w0.a + w0.d)) 46) (by
          rw [show ws.length - 1 = i by omega, hw]
          exact ⟨rfl, by omega, asc, fun c hc => ⟨(bnd c hc).1, Nat.le_trans (bnd c hc).2 n2⟩⟩)
        have ap : RS n S (S3.set S.length (.lst (rs.map tx ++ [tx (List.replicate (w0.f + w0.a) 46 ++ cs.map (48 + ·) ++ List.replicate (ws.length - (w0.f + w0.a + w0.d)) 46)]))) (rs ++ [List.replicate (w0.f + w0.a) 46 ++ cs.map (48 + ·) ++ List.replicate (ws.length - (w0.f + w0.a + w0.d)) 46]) := by
          refine ⟨?_, r3.kp.set (Nat.le_refl _), ?_⟩
          · obtain ⟨a, b, c, e, r⟩ := r3.bag
            exact ⟨a, b, c, by rw [List.getElem?_set_ne (by omega)]; exact e, r⟩
          · rw [List.getElem?_set_self (List.getElem?_eq_some_iff.mp r3.told).1, List.map_append] <;> rfl
        exact hN _ _ ⟨by omega, _, ws, _, _, _, _, _, _, _, _, _, _, _, _, ap, fun z => absurd z (by omega), fun _ => ⟨cs, sh, by omega⟩, rfl⟩
    · have iL : i + 1 < L := by omega
      walk_at "dd"
      rw [decide_eq_true (show 1 + (i : Int) < L by omega)]
      walk_at "dd"
      refine (ok_take T r2.bag (by decide) (by decide) fun t S4 t0 t1 b4 x4 => ?_).mono (Nat.le_of_ble_eq_true rfl)
      have r4 := r2.bt hn b4 x4
      have e4 : S4[pc]? = _ := (x4.at_ _ (by have := h.lt; omega)).trans ec
      clear r2 ec x4 b4
      walk_at "dd"
      refine j_E (fun d S' => ∃ v : Nat, d = .int v ∧ v ≤ 2 ∧ RS n S S' rs ∧ S'[pc]? = some (.lst (List.replicate (w0.d + 1) (sgT 45)))) ?_ (fun Q' k c2 => ?_) fun Q' k c2 => ?_
      rotate_left
      · walk_at "dd"
        refine (ok_take T r4.bag (by decide) (by decide) fun t' S5 t0' t1' b5 x5 => ?_).mono (Nat.le_of_ble_eq_true rfl)
        obtain ⟨t2, rfl⟩ := Int.eq_ofNat_of_zero_le t0'
        have t1' : (t2 : Int) < 2 := t1'
        walk_at "dd"
        rw [show (1 : Int) + (t2 : Int) = ((1 + t2 : Nat) : Int) by omega]
        exact k _ _ ⟨1 + t2, rfl, by omega, r4.bt hn b5 x5, (x5.at_ _ (by omega)).trans e4⟩
      · walk_at "dd"
        exact k (.int (0 : Nat)) _ ⟨0, rfl, by decide, r4, e4⟩
      clear r4 e4 t0 t1 t S4 S2
      rintro d S3 ⟨few, rfl, f2, r3, e3⟩
      refine ⟨_, rfl, ?_⟩
      refine q_gname (ρ' := [.sh (.ptr n), .sh (.int L), .sh (.int M), .sh (.ptr S.length), .sh (.int (w0.f + w0.a : Nat)), .sh (.int (((w0.f + w0.a + w0.d : Nat) : Int) - 1)), .sh (.int w0.lo), .sh (.int w0.hi), .sh (.int (1 + (i : Int))), .sh (.int (w0.f + w0.a : Nat)), .sh (.int (((w0.f + w0.a + w0.d : Nat) : Int) - 1 + 1)), .sh (.ptr pc), x12, x13, .sh (.int few), x15, .un, .un, .un, .un]) rfl ?_
      refine join_S (α := Nat × Nat) (fun al S' => al.1 ≤ w0.d ∧ w0.lo ≤ al.2 ∧ al.2 ≤ 3 ∧ RS n S S' rs ∧ S'[pc]? = some (.lst ((List.replicate al.1 (48 + al.2) ++ List.replicate (w0.d + 1 - al.1) 45).map sgT)))
        (fun al => [.sh (.ptr n), .sh (.int L), .sh (.int M), .sh (.ptr S.length), .sh (.int (w0.f + w0.a + al.1 : Nat)), .sh (.int (((w0.f + w0.a + w0.d : Nat) : Int) - 1)), .sh (.int al.2), .sh (.int w0.hi), .sh (.int (1 + (i : Int))), .sh (.int (w0.f + w0.a : Nat)), .sh (.int (((w0.f + w0.a + w0.d : Nat) : Int) - 1 + 1)), .sh (.ptr pc), x12, x13, .sh (.int few), x15, .un, .un, .un, .un]) ?_ fun nx k => ?_
      rotate_left
      · have non : nx [.sh (.ptr n), .sh (.int L), .sh (.int M), .sh (.ptr S.length), .sh (.int (w0.f + w0.a : Nat)), .sh (.int (((w0.f + w0.a + w0.d : Nat) : Int) - 1)), .sh (.int w0.lo), .sh (.int w0.hi), .sh (.int (1 + (i : Int))), .sh (.int (w0.f + w0.a : Nat)), .sh (.int (((w0.f + w0.a + w0.d : Nat) : Int) - 1 + 1)), .sh (.ptr pc), x12, x13, .sh (.int few), x15, .un, .un, .un, .un] S3 :=
          k (0, w0.lo) S3 ⟨Nat.zero_le _, Nat.le_refl _, by omega, r3, by rw [e3, List.map_append, List.map_replicate, List.map_replicate] <;> rfl⟩
        walk_at "dd"
        refine i_two (fun c2 => ?_) fun c2 => ?_
        · walk_at "dd"
          rw [List.length_replicate]
          refine i_two (fun c3 => ?_) fun c3 => ?_
          · walk_at "dd"
            refine j_and (fun b S' => (b = true → w0.lo < 3) ∧ RS n S S' rs ∧ S'[pc]? = some (.lst (List.replicate (w0.d + 1) (sgT 45)))) ?_ (fun c4 C k => ?_) fun _ => ⟨fun z => (by cases z), r3, e3⟩
            rotate_left
            · walk_at "dd"
              refine (ok_take T r3.bag (by decide) (by decide) fun t S4 t0 t1 b4 x4 => ?_).mono (Nat.le_of_ble_eq_true rfl)
              walk_at "dd"
              exact k _ _ ⟨fun _ => by omega, r3.bt hn b4 x4, (x4.at_ _ (by have := h.lt; omega)).trans e3⟩
            clear r3 e3 non
            rintro b S4 ⟨hb, r4, e4⟩
            walk_at "dd"
            refine q_setSlG ?_
            have eb : (w0.lo : Int) + (if b = true then 1 else 0) = ((w0.lo + (if b = true then 1 else 0) : Nat) : Int) := by split <;> omega
            rw [eb]
            have lo3 : w0.lo + (if b = true then 1 else 0) ≤ 3 := by
              split
              · have := hb (by assumption)
                omega
              · omega
            have lo0 : w0.lo ≤ w0.lo + (if b = true then 1 else 0) := Nat.le_add_right _ _
            generalize w0.lo + (if b = true then 1 else 0) = lo at lo3 lo0 ⊢
            walk_at "dd"
            refine c_strF (n := lo) (by omega) ?_
            walk_at "dd"
            refine s_rep ls_v (by omega) (by omega) (by rw [sizeLine_eq]; simp only [List.length_cons, List.length_nil]; omega) (.inl ?_)
            rw [Int.toNat_natCast, rep_flat]
            refine ⟨_, rfl, ?_⟩
            walk_at "dd"
            refine ⟨pc, List.replicate (w0.d + 1) (sgT 45), 0, few, rfl, .inr ⟨rfl, rfl⟩, .inl rfl, e4, Nat.zero_le _, by rw [List.length_replicate]; omega, by rw [List.length_replicate, List.length_replicate, sizeLine_eq]; omega, ?_⟩
            have ec : (List.replicate (w0.d + 1) (sgT 45)).take 0 ++ List.replicate few (tx [48 + lo]) ++ (List.replicate (w0.d + 1) (sgT 45)).drop few = (List.replicate few (48 + lo) ++ List.replicate (w0.d + 1 - few) 45).map sgT := by
              rw [List.take_zero, List.nil_append, List.drop_replicate, List.map_append, List.map_replicate, List.map_replicate]
            rw [ec]
            have r5 := r4.other hn pg (.set (c := .lst ((List.replicate few (48 + lo) ++ List.replicate (w0.d + 1 - few) 45).map sgT)))
            have e5 : (S4.set pc (.lst ((List.replicate few (48 + lo) ++ List.replicate (w0.d + 1 - few) 45).map sgT)))[pc]? = _ := List.getElem?_set_self (List.getElem?_eq_some_iff.mp e4).1
            generalize S4.set pc (.lst ((List.replicate few (48 + lo) ++ List.replicate (w0.d + 1 - few) 45).map sgT)) = S5 at r5 e5 ⊢
            walk_at "dd"
            rw [← Int.natCast_add]
            exact k (few, lo) _ ⟨by omega, lo0, lo3, r5, e5⟩
          · walk_at "dd"
            exact non
        · walk_at "dd"
          exact non
      clear r3 e3 S3
      rintro ⟨a, lo⟩ S3 ⟨ha, lo1, lo2, r3, e3⟩
      have ha : a ≤ w0.d := ha
      have lo1 : w0.lo ≤ lo := lo1
      have lo2 : lo ≤ 3 := lo2
      dsimp only at e3 ⊢
      walk_at "dd"
      rw [decide_eq_true (show 1 + (i : Int) < L by omega)]
      walk_at "dd"
      refine (ok_take T r3.bag (by decide) (by decide) fun t S4 t0 t1 b4 x4 => ?_).mono (Nat.le_of_ble_eq_true rfl)
      have r4 := r3.bt hn b4 x4
      have e4 : S4[pc]? = _ := (x4.at_ _ (by have := h.lt; omega)).trans e3
      clear r3 e3 x4 b4
      walk_at "dd"
      refine j_E (fun d S' => ∃ v : Nat, d = .int v ∧ v ≤ 2 ∧ RS n S S' rs ∧ S'[pc]? = some (.lst ((List.replicate a (48 + lo) ++ List.replicate (w0.d + 1 - a) 45).map sgT))) ?_ (fun Q' k c2 => ?_) fun Q' k c2 => ?_
      rotate_left
      · walk_at "dd"
        refine (ok_take T r4.bag (by decide) (by decide) fun t' S5 t0' t1' b5 x5 => ?_).mono (Nat.le_of_ble_eq_true rfl)
        obtain ⟨t2, rfl⟩ := Int.eq_ofNat_of_zero_le t0'
        have t1' : (t2 : Int) < 2 := t1'
        walk_at "dd"
        rw [show (1 : Int) + (t2 : Int) = ((1 + t2 : Nat) : Int) by omega]
        exact k _ _ ⟨1 + t2, rfl, by omega, r4.bt hn b5 x5, (x5.at_ _ (by omega)).trans e4⟩
      · walk_at "dd"
        exact k (.int (0 : Nat)) _ ⟨0, rfl, by decide, r4, e4⟩
      clear r4 e4 t0 t1 t S4 S3
      rintro d S3 ⟨mn, rfl, m2, r3, e3⟩
      refine ⟨_, rfl, ?_⟩
      refine q_gname (ρ' := [.sh (.ptr n), .sh (.int L), .sh (.int M), .sh (.ptr S.length), .sh (.int (w0.f + w0.a + a : Nat)), .sh (.int (((w0.f + w0.a + w0.d : Nat) : Int) - 1)), .sh (.int lo), .sh (.int w0.hi), .sh (.int (1 + (i : Int))), .sh (.int (w0.f + w0.a : Nat)), .sh (.int (((w0.f + w0.a + w0.d : Nat) : Int) - 1 + 1)), .sh (.ptr pc), x12, x13, .sh (.int few), .sh (.int mn), .un, .un, .un, .un]) rfl ?_
      refine join_S (α := Nat × Nat) (fun bh S' => a + bh.1 ≤ w0.d ∧ bh.2 ≤ w0.hi ∧ 4 ≤ bh.2 ∧ RS n S S' rs ∧ S'[pc]? = some (.lst ((List.replicate a (48 + lo) ++ List.replicate (w0.d + 1 - a - bh.1) 45 ++ List.replicate bh.1 (48 + bh.2)).map sgT)))
        (fun bh => [.sh (.ptr n), .sh (.int L), .sh (.int M), .sh (.ptr S.length), .sh (.int (w0.f + w0.a + a : Nat)), .sh (.int (((w0.f + w0.a + w0.d : Nat) : Int) - 1 + 1 - (bh.1 : Nat))), .sh (.int lo), .sh (.int bh.2), .sh (.int (1 + (i : Int))), .sh (.int (w0.f + w0.a : Nat)), .sh (.int (((w0.f + w0.a + w0.d : Nat) : Int) - 1 + 1)), .sh (.ptr pc), x12, x13, .sh (.int few), .sh (.int mn), .un, .un, .un, .un]) ?_ fun nx k => ?_
      rotate_left
      · have non := k (0, w0.hi) S3 ⟨ha, Nat.le_refl _, by omega, r3, by rw [e3, List.replicate_zero, List.append_nil, Nat.sub_zero]⟩
        dsimp only at non
        rw [Int.natCast_zero, Int.sub_zero] at non
        walk_at "dd"
        refine i_two (fun c2 => ?_) fun c2 => ?_
        · walk_at "dd"
          refine i_two (fun c3 => ?_) fun c3 => ?_
          · walk_at "dd"
            refine j_and (fun b S' => (b = true → 4 < w0.hi) ∧ RS n S S' rs ∧ S'[pc]? = some (.lst ((List.replicate a (48 + lo) ++ List.replicate (w0.d + 1 - a) 45).map sgT))) ?_ (fun c4 C k => ?_) fun _ => ⟨fun z => (by cases z), r3, e3⟩
            rotate_left
            · walk_at "dd"
              refine (ok_take T r3.bag (by decide) (by decide) fun t S4 t0 t1 b4 x4 => ?_).mono (Nat.le_of_ble_eq_true rfl)
              walk_at "dd"
              exact k _ _ ⟨fun _ => by omega, r3.bt hn b4 x4, (x4.at_ _ (by have := h.lt; omega)).trans e3⟩
            clear r3 e3 non
            rintro b S4 ⟨hb, r4, e4⟩
            walk_at "dd"
            refine q_setSlG ?_
            have eb : (w0.hi : Int) - (if b = true then 1 else 0) = ((w0.hi - (if b = true then 1 else 0) : Nat) : Int) := by split <;> omega
            rw [eb]
            have hi3 : 4 ≤ w0.hi - (if b = true then 1 else 0) := by
              split
              · have := hb (by assumption)
                omega
              · omega
            have hi0 : w0.hi - (if b = true then 1 else 0) ≤ w0.hi := Nat.sub_le _ _
            generalize w0.hi - (if b = true then 1 else 0) = hi' at hi3 hi0 ⊢
            walk_at "dd"
            refine c_strF (n := hi') (by omega) ?_
            walk_at "dd"
            refine s_rep ls_v (by omega) (by omega) (by rw [sizeLine_eq]; simp only [List.length_cons, List.length_nil]; omega) (.inl ?_)
            rw [Int.toNat_natCast, rep_flat]
            refine ⟨_, rfl, ?_⟩
            walk_at "dd"
            have ln : ((List.replicate a (48 + lo) ++ List.replicate (w0.d + 1 - a) 45).map sgT).length = w0.d + 1 := by
              rw [List.length_map, List.length_append, List.length_replicate, List.length_replicate]
              omega
            refine ⟨pc, (List.replicate a (48 + lo) ++ List.replicate (w0.d + 1 - a) 45).map sgT, w0.d + 1 - mn, w0.d + 1, rfl, .inl (congrArg some (by rw [ln]; omega)), .inr ⟨rfl, ln.symm⟩, e4, by omega, by rw [ln]; exact Nat.le_refl _, by rw [ln, List.length_replicate, sizeLine_eq]; omega, ?_⟩
            have ec : ((List.replicate a (48 + lo) ++ List.replicate (w0.d + 1 - a) 45).map sgT).take (w0.d + 1 - mn) ++ List.replicate mn (tx [48 + hi']) ++ ((List.replicate a (48 + lo) ++ List.replicate (w0.d + 1 - a) 45).map sgT).drop (w0.d + 1) = (List.replicate a (48 + lo) ++ List.replicate (w0.d + 1 - a - mn) 45 ++ List.replicate mn (48 + hi')).map sgT := by
              rw [List.drop_eq_nil_of_le (by omega), List.append_nil, ← List.map_take, List.take_append, List.take_replicate, List.take_replicate, List.length_replicate, show min (w0.d + 1 - mn) a = a by omega, show min (w0.d + 1 - mn - a) (w0.d + 1 - a) = w0.d + 1 - a - mn by omega, List.map_append (l₂ := List.replicate mn (48 + hi')), List.map_replicate]
            rw [ec]
            have r5 := r4.other hn pg (.set (c := .lst ((List.replicate a (48 + lo) ++ List.replicate (w0.d + 1 - a - mn) 45 ++ List.replicate mn (48 + hi')).map sgT)))
            have e5 : (S4.set pc (.lst ((List.replicate a (48 + lo) ++ List.replicate (w0.d + 1 - a - mn) 45 ++ List.replicate mn (48 + hi')).map sgT)))[pc]? = _ := List.getElem?_set_self (List.getElem?_eq_some_iff.mp e4).1
            generalize S4.set pc (.lst ((List.replicate a (48 + lo) ++ List.replicate (w0.d + 1 - a - mn) 45 ++ List.replicate mn (48 + hi')).map sgT)) = S5 at r5 e5 ⊢
            walk_at "dd"
            exact k (mn, hi') _ ⟨by omega, hi0, hi3, r5, e5⟩
          · walk_at "dd"
            exact non
        · walk_at "dd"
          exact non
      clear r3 e3 S3
      rintro ⟨b, hi'⟩ S3 ⟨hb, hi1, hi2', r3, e3⟩
      have hb : a + b ≤ w0.d := hb
      have hi1 : hi' ≤ w0.hi := hi1
      have hi2' : 4 ≤ hi' := hi2'
      dsimp only at e3 ⊢
      walk_at "dd"
      refine ⟨.inl ⟨rfl, _, r3.told⟩, ?_⟩
      have rl : rs.length ≤ 30 := by have := u.len; omega
      have ml : (List.replicate a (48 + lo) ++ List.replicate (w0.d + 1 - a - b) 45 ++ List.replicate b (48 + hi')).length = w0.d + 1 := by
        simp only [List.length_append, List.length_replicate]
        omega
      generalize hmid : List.replicate a (48 + lo) ++ List.replicate (w0.d + 1 - a - b) 45 ++ List.replicate b (48 + hi') = mid at e3 ml
      walk_at "dd"
      refine s_mulT (by omega) (by omega) ?_
      walk_at "dd"
      refine m_join1 (l := mid) (sqP e3) (by omega) ?_
      walk_at "dd"
      refine s_catTx (by rw [List.length_replicate]; omega) ?_
      walk_at "dd"
      refine s_mulT (by omega) (by omega) ?_
      walk_at "dd"
      refine s_catTx (by simp only [List.length_append, List.length_replicate]; omega) ?_
      walk_at "dd"
      refine m_append r3.told (by rw [sizeLine_eq, List.length_map]; omega) ?_
      have eR : List.replicate ((w0.f + w0.a : Nat) : Int).toNat 46 ++ mid ++ List.replicate ((1 + (i : Int)) - (((w0.f + w0.a + w0.d : Nat) : Int) - 1 + 1)).toNat 46 = (⟨w0.f + w0.a, a, w0.d + 1 - a - b, b, lo, hi'⟩ : RB).row ws.length := by
        unfold RB.row rowB
        dsimp only
        rw [Int.toNat_natCast, show ((1 + (i : Int)) - (((w0.f + w0.a + w0.d : Nat) : Int) - 1 + 1)).toNat = ws.length + 1 - (w0.f + w0.a + a + (w0.d + 1 - a - b) + b) by omega, hmid]
      rw [eR]
      have ad := u.add (v := ⟨w0.f + w0.a, a, w0.d + 1 - a - b, b, lo, hi'⟩) (by
        rw [show ws.length - 1 = i by omega, hw]
        exact ⟨rfl, by show a + (w0.d + 1 - a - b) + b = w0.d + 1; omega, by show 1 ≤ w0.d + 1 - a - b; omega, lo1, hi1, by show lo ≤ hi'; omega⟩) (by show hi' ≤ 7; omega)
      have gv : (ws ++ [(⟨w0.f + w0.a, a, w0.d + 1 - a - b, b, lo, hi'⟩ : RB)]).getD (i + 1) rb0 = ⟨w0.f + w0.a, a, w0.d + 1 - a - b, b, lo, hi'⟩ := by rw [getD_concat, if_neg (by omega), if_pos (by omega)]
      generalize (⟨w0.f + w0.a, a, w0.d + 1 - a - b, b, lo, hi'⟩ : RB).row ws.length = row at ad ⊢
      have ap : RS n S (S3.set S.length (.lst (rs.map tx ++ [tx row]))) (rs ++ [row]) := by
        refine ⟨?_, r3.kp.set (Nat.le_refl _), ?_⟩
        · obtain ⟨a, b, c, e, r⟩ := r3.bag
          exact ⟨a, b, c, by rw [List.getElem?_set_ne (by omega)]; exact e, r⟩
        · rw [List.getElem?_set_self (List.getElem?_eq_some_iff.mp r3.told).1, List.map_append] <;> rfl
      refine hN _ _ ⟨by omega, rs ++ [row], ws ++ [⟨w0.f + w0.a, a, w0.d + 1 - a - b, b, lo, hi'⟩], _, _, _, _, _, _, _, _, _, _, _, _, ap, fun _ => ⟨ad, by rw [List.length_append, wl] <;> rfl, ?_⟩, fun z => absurd z (by omega), rfl⟩
      rw [gv]
      exact ⟨rfl, by show _ = (((w0.f + w0.a + a + (w0.d + 1 - a - b) : Nat) : Int) - 1); omega, rfl, rfl, by omega, by omega, by omega⟩
  · clear r0
    rintro ρ S1 ⟨_, rs, ws, low, high, least, top, x8, x9, x10, x11, x12, x13, x14, x15, r1, _, fin, rfl⟩
    obtain ⟨cs, sh, wl⟩ := fin (by rw [rngD_len]; omega)
    clear fin
    have len := sh.len
    have hl : ∀ r ∈ rs, r.length ≤ 21 := fun r hr => by
      obtain ⟨m, hm, rfl⟩ := List.mem_iff_getElem.mp hr
      have := sh.rl hm
      rw [List.getD_eq_getElem?_getD, List.getElem?_eq_getElem hm, Option.getD_some] at this
      omega
    have sr := sum_rows rs 21 hl
    have l8 := cls_len rs
    walk_at "dd"
    rw [sgn_tx]
    refine lc_pure (fun d => match d with | .str x => decide (x.cps.toList.headD 0 ∈ rs.flatten) | _ => false) (fun d => d) (Nat.le_of_ble_eq_true rfl) (fun z hz X Y h1 h2 => ?_) ?_
    · rw [l_figs8, List.map_map] at hz
      obtain ⟨m, hm, rfl⟩ := List.mem_map.mp hz
      have hm := List.mem_range.mp hm
      walk_at "dd"
      refine m_join (ls := rs) (sep := []) (sqP r1.told) (by show _ + rs.length * 0 ≤ _; omega) ?_
      rw [joinL_nil]
      walk_at "dd"
      refine s_inT (c := 48 + m) ?_
      walk_at "dd"
      refine i_two (fun c => ?_) fun c => ?_
      · walk_at "dd"
        exact h1 (decide_eq_true c)
      · walk_at "dd"
        exact h2 (decide_eq_false c)
    have ek : (([48, 49, 50, 51, 52, 53, 54, 55].map fun c => tx [c]).filter (fun d => match d with | .str x => decide (x.cps.toList.headD 0 ∈ rs.flatten) | _ => false)).map (fun d => d) = (cls rs).map fun n => tx [48 + n] := by
      rw [List.map_id', l_figs8, List.map_map, List.filter_map] <;> rfl
    rw [ek]
    walk_at "dd"
    rw [List.length_map]
    refine i_two (fun c => ?_) fun c => ?_
    · walk_at "dd"
      refine lc_pure (fun _ => true) (fun d => match d with | .int k => tx (List.replicate (k.toNat + 1) 45) | _ => .non) (by rw [rngD_len]; omega) (fun z hz X Y k1 k2 => ?_) ?_
      · obtain ⟨k, hk, rfl⟩ := List.mem_map.mp hz
        have hk := List.mem_range.mp hk
        replace k1 : X (.v (tx (List.replicate (((0 : Int) + (k : Nat)).toNat + 1) 45))) S1 := k1 rfl
        rw [Int.zero_add] at k1 ⊢
        rw [Int.toNat_natCast] at k1 hk
        walk_at "dd"
        refine s_mulT (by omega) (by omega) ?_
        rw [show ((k : Int) + 1).toNat = k + 1 by omega]
        exact k1
      have e1 : ((rngD 0 (L : Int).toNat).filter fun _ => true).map (fun d => match d with | .int k => tx (List.replicate (k.toNat + 1) 45) | _ => .non) = ((List.range L).map fun m => List.replicate (m + 1) 45).map tx := by
        rw [List.filter_eq_self.mpr fun _ _ => rfl, rngD, List.map_map, Int.toNat_natCast, List.map_map]
        refine List.map_congr_left fun k _ => ?_
        show tx (List.replicate (((0 : Int) + (k : Nat)).toNat + 1) 45) = tx (List.replicate (k + 1) 45)
        rw [show ((0 : Int) + (k : Nat)).toNat = k by omega]
      rw [e1]
      rw [show Str.ofString "0" = SX.S [48] by decide +kernel, show Str.ofString "1" = SX.S [49] by decide +kernel]
      walk_at "dd"
      refine s_mulT (by omega) (by omega) ?_
      walk_at "dd"
      refine s_catTx (by rw [List.length_replicate]; show 1 + _ ≤ _; omega) ?_
      walk_at "dd"
      refine s_cat ls_v ls_v (by rw [sizeLine_eq]; simp only [List.length_map, List.length_range, List.length_cons, List.length_nil]; omega) (.inl ?_)
      have q := q _ S1 (two_plan hL0 hL) plain_len r1.bag r1.kp
      have e2 : (plainR L fun k => min k 1).map tx = ((List.range L).map fun m => List.replicate (m + 1) 45).map tx ++ [tx ([48] ++ List.replicate (L : Int).toNat 49)] := by
        unfold plainR
        rw [List.map_append, List.map_singleton, Int.toNat_natCast]
        congr 3
        refine List.ext_getElem (by simp) fun k h1 h2 => ?_
        simp only [List.getElem_map, List.getElem_range, List.singleton_append]
        cases k with
        | zero => rfl
        | succ k =>
          rw [List.getElem_cons_succ, List.getElem_replicate]
          omega
      rw [e2] at q
      exact ⟨_, rfl, q⟩
    · have asc := cls_asc rs
      have lt8 : ∀ n ∈ cls rs, n < 8 := fun n hn => (cls_lt hn).1
      have inc : ∀ c, 48 ≤ c ∧ c ≤ 55 → c ∈ rs.flatten → c - 48 ∈ cls rs := fun c h hm => cls_of (by omega) (by rw [show 48 + (c - 48) = c by omega]; exact hm)
      have pl := sh.numbered (by omega) hM (show 2 ≤ (cls rs).length by omega)
      generalize hks : cls rs = ks at asc lt8 l8 inc c pl
      have q := q _ (S1 ++ [.dct (nmKV ks M)]) pl (by unfold mapF; rw [List.length_map]; omega) (r1.bag.kp (L := []) .app (by simp)) (r1.kp.trans .app)
      walk_at "dd"
      refine .inr ?_
      refine ⟨_, rfl, ?_⟩
      walk_at "dd"
      rw [List.length_map]
      walk_at "dd"
      refine loop_inv (fun i ρ S' => S' = S1 ++ [.dct ((nmKV ks M).take i)] ∧ i ≤ ks.length ∧ ∃ x13 : Sl, ρ = [.sh (.ptr n), .sh (.int L), .sh (.int M), .sh (.ptr S.length), .sh (.int low), .sh (.int high), .sh (.int least), .sh (.int top), x8, x9, x10, x11, x12, x13, x14, x15, .sh (.lst (ks.map fun n => tx [48 + n])), .sh (.ptr S1.length), .un, .un]) ⟨rfl, Nat.zero_le _, _, rfl⟩ ?_ ?_
      · rintro i x ρ S' Nx hx ⟨rfl, hi, x13, rfl⟩ hN
        obtain ⟨hi2, rfl⟩ := rngD_at hx
        rw [Int.toNat_natCast] at hi2
        rw [Int.zero_add]
        have hat : (S1 ++ [Cell.dct ((nmKV ks M).take i)])[S1.length]? = some (.dct ((nmKV ks M).take i)) := List.getElem?_concat_length
        walk_at "dd"
        refine j_E (fun d S' => d = .int (min i (M - 1) : Nat) ∧ S' = S1 ++ [Cell.dct ((nmKV ks M).take i)]) ?_ (fun Q' k c2 => ?_) fun Q' k c2 => ?_
        rotate_left
        · walk_at "dd"
          exact k _ _ ⟨by rw [Nat.min_eq_left (by omega)], rfl⟩
        · walk_at "dd"
          exact k _ _ ⟨by rw [Nat.min_eq_right (by omega), show (M : Int) - 1 = ((M - 1 : Nat) : Int) by omega], rfl⟩
        rintro d S' ⟨rfl, rfl⟩
        walk_at "dd"
        refine c_strF (n := min i (M - 1)) (by omega) ?_
        have a1 : L2.atI (ks.map fun n => tx [48 + n]) (i : Int) = some (tx [48 + ks.getD i 0]) := atI_mapD (f := fun n => tx [48 + n]) 0 (by omega)
        walk_at "dd"
        refine s_ixL ls_v a1 ?_
        walk_at "dd"
        refine set_K (i := .inr (SX.S [48 + ks.getD i 0])) (xs := (nmKV ks M).take i) hat (by rw [List.length_take, sizeLine_eq]; omega) ?_
        rw [nm_put asc hi2, List.set_append_right _ _ (Nat.le_refl _), Nat.sub_self]
        exact hN _ _ ⟨rfl, hi2, _, rfl⟩
      · rintro ρ S' ⟨rfl, _, x13, rfl⟩
        rw [rngD_len, Int.toNat_natCast, List.take_of_length_le (by unfold nmKV; rw [List.length_map, List.length_range]; exact Nat.le_refl _)]
        have td : (S1 ++ [Cell.dct (nmKV ks M)])[S.length]? = some (.lst (rs.map tx)) := Kp.app (L := []) _ _ (by simp) r1.told
        have hat : (S1 ++ [Cell.dct (nmKV ks M)])[S1.length]? = some (.dct (nmKV ks M)) := List.getElem?_concat_length
        generalize S1 ++ [Cell.dct (nmKV ks M)] = S2 at q td hat ⊢
        walk_at "dd"
        refine ⟨S.length, _, rfl, td, ?_⟩
        refine lcC_pure (fun _ => true) (fun d => match d with | .str x => tx (x.cps.toList.map (numF fun n => min (rho ks n) (M - 1))) | _ => .non) td (by rw [List.length_map]; omega) (fun z hz X Y h1 h2 => ?_) ?_
        · obtain ⟨r, hr, rfl⟩ := List.mem_map.mp hz
          have h1 : X (.v (tx (r.map (numF fun n => min (rho ks n) (M - 1))))) S2 := h1 rfl
          have rl := hl r hr
          walk_at "dd"
          rw [sgn_tx]
          refine lc_pure (fun _ => true) (fun d => match d with | .str x => tx [numF (fun n => min (rho ks n) (M - 1)) (x.cps.toList.headD 0)] | _ => .non) (by rw [List.length_map]; omega) (fun z hz X2 Y2 k1 k2 => ?_) ?_
          · obtain ⟨c, hc, rfl⟩ := List.mem_map.mp hz
            have k1 : X2 (.v (tx [numF (fun n => min (rho ks n) (M - 1)) c])) S2 := k1 rfl
            walk_at "dd"
            refine ⟨⟨nmKV ks M, hat⟩, ?_⟩
            walk_at "dd"
            refine ⟨nmKV ks M, .inr (SX.S [c]), tx [c], hat, rfl, rfl, ?_⟩
            rw [nm_at asc (fun h48 => inc c h48 (List.mem_flatten.mpr ⟨r, hr, hc⟩)) lt8]
            walk_at "dd"
            exact k1
          · rw [List.filter_eq_self.mpr fun _ _ => rfl, List.map_map]
            rw [show (r.map ((fun d => match d with | .str x => tx [numF (fun n => min (rho ks n) (M - 1)) (x.cps.toList.headD 0)] | _ => D.non) ∘ fun c => tx [c])) = (r.map (numF fun n => min (rho ks n) (M - 1))).map fun c => tx [c] from by rw [List.map_map] <;> rfl]
            walk_at "dd"
            refine m_join1 (l := r.map (numF fun n => min (rho ks n) (M - 1))) sqL (by rw [List.length_map]; omega) ?_
            walk_at "dd"
            exact h1
        · have e1 : ((rs.map tx).filter fun _ => true).map (fun d => match d with | .str x => tx (x.cps.toList.map (numF fun n => min (rho ks n) (M - 1))) | _ => .non) = (mapF (fun n => min (rho ks n) (M - 1)) rs).map tx := by
            rw [List.filter_eq_self.mpr fun _ _ => rfl, List.map_map]
            unfold mapF
            rw [List.map_map] <;> rfl
          rw [e1]
          exact ⟨_, rfl, q⟩
end Toy

set_option Elab.async false
set_option linter.all false
set_option maxRecDepth 100000
set_option maxHeartbeats 8000000
namespace Toy
open PySem PySem.Spec PyProof.Rows L2 My Dt SX Pln
local macro_rules | `(tactic| walk_at "rg") => `(tactic| first
  | omega
  | ((refine And.intro ?_ (And.intro ?_ (And.intro ?_ ?_))) <;> omega))
local macro_rules | `(tactic| walk_at "ls") => `(tactic| first
  | with_reducible exact ls_v
  | with_reducible exact ls_b
  | ((with_reducible refine' ls_p ?hlp); (case hlp => with_reducible assumption)))
local macro_rules | `(tactic| walk_at "start") => `(tactic| ((simp only [startM, startS, List.map_cons, List.map_nil, List.length_cons, List.length_nil, List.cons_append, List.nil_append, Nat.reduceAdd, Nat.reduceSub, List.replicate_succ, List.replicate_zero]); exact rfl))
local macro_rules | `(tactic| walk_at "set") => `(tactic| first
  | ((dsimp only [Int.reduceToNat, List.set_cons_zero, List.set_cons_succ, VO.sl]); done)
  | ((dsimp only [Int.reduceToNat, List.set_cons_zero, List.set_cons_succ, VO.sl]); exact rfl)
  | exact rfl)
local macro_rules | `(tactic| walk_at "sz") => `(tactic| first
  | exact sz_of (Nat.le_of_ble_eq_true rfl)
  | (apply sz_of; simp only [List.length_cons, List.length_nil, List.length_append, List.length_map]; omega))
local macro_rules | `(tactic| walk_at "side") => `(tactic| first
  | with_reducible assumption
  | omega
  | exact ml (by omega) (by omega)
  | exact mr (by omega) (by omega)
  | exact dv (by omega) (by omega)
  | exact Bd.mulOk (by with_reducible assumption) (by with_reducible assumption) (by decide) (by decide) (by decide)
  | exact Bd.div (by with_reducible assumption) (by omega) (by decide) (by decide)
  | (show (0 : Int) < _; omega)
  | exact ⟨by decide, by decide, by decide⟩
  | decide
  | exact rfl)
local macro_rules | `(tactic| walk_at "st") => `(tactic| first
  | with_reducible refine q_seq ?_
  | with_reducible refine q_end ?_
  | with_reducible refine q_nil ?_
  | with_reducible refine q_asg ?_
  | with_reducible refine q_ret ?_
  | with_reducible refine q_if ?_
  | with_reducible refine q_expr ?_
  | with_reducible refine q_retN ?_
  | with_reducible refine q_sub ?_
  | with_reducible refine q_for ?_
  | with_reducible refine q_par ?_
  | with_reducible refine q_par3 ?_
  | with_reducible refine q_parV ?_
  | with_reducible refine q_parV3 ?_
  | with_reducible refine q_asgF ?_
  | with_reducible refine q_asgC ?_
  | ((with_reducible refine' q_frz ?ef ?_); (case ef => exact rfl))
  | ((with_reducible refine' q_app ?ea ?eb ?_); (case ea => exact rfl); (case eb => walk_at "slen"))
  | with_reducible refine q_brk ?_
  | with_reducible refine q_cnt ?_
  | with_reducible refine q_fldS ?_
  | with_reducible refine q_fldP ?_
  | with_reducible refine q_raise ?_
  | with_reducible refine q_try ?_)
local macro_rules | `(tactic| walk_at "slen") => `(tactic| first
  | with_reducible assumption
  | ((rw [sizeLine_eq]); (simp only [List.length_cons, List.length_nil, List.length_append, List.length_map]); omega))
local macro_rules | `(tactic| walk_at "sm") => `(tactic| first
  | with_reducible refine s_add ?_
  | with_reducible refine s_sub ?_
  | ((with_reducible refine' s_mul ?hm ?_); (case hm => walk_at "side"))
  | ((with_reducible refine' s_fdiv ?hm ?_); (case hm => walk_at "side"))
  | ((with_reducible refine' s_mod ?hm ?_); (case hm => walk_at "side"))
  | with_reducible refine s_neg ?_
  | ((with_reducible refine' s_pow ?hm ?_); (case hm => walk_at "side"))
  | ((with_reducible refine' s_ixL ?hl ?he ?_); (case hl => walk_at "ls"); (case he => exact rfl))
  | ((with_reducible refine' s_ixT ?he ?_); (case he => exact rfl))
  | ((with_reducible refine' set_L2 ?ha ?hb ?hc ?_); (case ha => with_reducible assumption); (case hb => exact rfl); (case hc => walk_at "set"))
  | with_reducible refine s_addB ?_
  | with_reducible refine s_lt ?_
  | with_reducible refine s_le ?_
  | with_reducible refine s_gt ?_
  | with_reducible refine s_ge ?_
  | with_reducible refine s_eq ?_
  | with_reducible refine s_ne ?_
  | with_reducible refine s_eqS ?_
  | with_reducible refine s_neS ?_
  | with_reducible refine s_isN ?_
  | with_reducible refine s_isNotN ?_
  | with_reducible refine t_bl ?_)
local macro_rules | `(tactic| walk_at "cl") => `(tactic| first
  | with_reducible refine c_int ?_
  | with_reducible refine c_intB ?_
  | with_reducible refine c_abs ?_
  | ((with_reducible refine' c_max ?hm ?_); (case hm => exact rfl))
  | ((with_reducible refine' c_min ?hm ?_); (case hm => exact rfl))
  | ((with_reducible refine' c_divmod ?hm ?_); (case hm => walk_at "side"))
  | ((with_reducible refine' c_len ?hm ?_); (case hm => walk_at "sq"))
  | ((with_reducible refine' c_list ?hm ?_); (case hm => walk_at "sq"))
  | ((with_reducible refine' c_tuple ?hm ?_); (case hm => walk_at "sq")))
local macro_rules | `(tactic| walk_at "sq") => `(tactic| first
  | exact sqL
  | exact sqT
  | exact sqB
  | exact sqP (by with_reducible assumption))
local macro_rules | `(tactic| walk_at "v") => `(tactic| first
  | ((with_reducible refine' v_sh ?ev ?_); (case ev => exact rfl))
  | ((with_reducible refine' v_ol ?ev ?_); (case ev => exact rfl))
  | ((with_reducible refine' v_slf ?ev ?_); (case ev => exact rfl))
  | with_reducible refine q_val ?_
  | ((with_reducible refine' q_walk ?ew ?_); (case ew => exact rfl))
  | ((with_reducible refine' q_rng1 ?ej ?ek ?_); (case ej => walk_at "rg"); (case ek => walk_at "rg"))
  | ((with_reducible refine' q_rng2 ?ej ?_); (case ej => walk_at "rg"))
  | with_reducible refine q_rngL ?_
  | with_reducible refine q_solc ?_
  | with_reducible refine q_sol0 ?_
  | ((with_reducible refine' q_gname ?eg ?_); (case eg => walk_at "set"))
  | ((with_reducible refine' n_set ?eg ?_); (case eg => walk_at "set"))
  | ((with_reducible refine' n_set2 ?eg ?_); (case eg => walk_at "set"))
  | ((with_reducible refine' n_set3 ?eg ?_); (case eg => walk_at "set"))
  | with_reducible refine q_two ?_
  | with_reducible refine q_three ?_
  | with_reducible refine q_vv ?_
  | with_reducible refine q_isS ?_
  | with_reducible refine q_isL ?_
  | with_reducible refine q_twoV ?_
  | with_reducible refine q_threeV ?_
  | with_reducible refine q_bl ?_
  | with_reducible refine q_oint ?_
  | ((with_reducible refine' q_gtup ?el ?_); (case el => exact rfl))
  | with_reducible refine q_gcons ?_
  | with_reducible refine q_gnil ?_
  | with_reducible refine i_t ?_
  | with_reducible refine i_f ?_
  | with_reducible refine i_nt ?_
  | with_reducible refine i_nf ?_
  | ((with_reducible refine' n_t ?en ?_); (case en => exact rfl))
  | ((with_reducible refine' n_f ?en ?_); (case en => exact rfl))
  | ((with_reducible refine' nn_t ?en ?_); (case en => exact rfl))
  | ((with_reducible refine' nn_f ?en ?_); (case en => exact rfl))
  | with_reducible refine And.intro (by walk_at "sz") ?_)
local macro_rules | `(tactic| walk_at "d") => `(tactic| first
  | walk_at "v"
  | walk_at "st"
  | walk_at "sm"
  | walk_at "cl"
  | walk_at "at")
local macro_rules | `(tactic| walk_at "dd") => `(tactic| repeat walk_at "d")
local macro_rules | `(tactic| walk_at "tx") => `(tactic| simp only [l_dash, l_dot, l_nil, l_space, l_figs, l_signs])

variable {P : Program} {w : World} {K : PySem.W.Frag} {mg : Str → Option Value} {base : Heap} {S : Sto} {Ex : XS} {Q : QO}

theorem ok_isint (T : Tx K mg) {i : Int} (q : Q (.v (.bl true)) S) : sFun (bs P w K mg base) 1 (.ref (He.ga K "is_integer")) [] [.int i] [] S Ex Q := by
  refine' call_d (B := bs P w K mg base) 0 (Classical.choose_spec T.d_is_integer) sc_is_integer rfl (bm_all (ps := ["value"]) (Classical.choose_spec T.d_is_integer) (fun _ _ _ _ _ _ us hl => match us, hl with | [_], _ => rfl)) (dss_one (ds_ret (de_and (de_callB (id := "isinstance") rfl T.f_isinstance (by decide +kernel) (da_cons (dv 0) (da_cons (de_ty (n := "int") rfl T.f_int (by decide +kernel)) da_nil))) (de_one (de_not (de_callB (id := "isinstance") rfl T.f_isinstance (by decide +kernel) (da_cons (dv 0) (da_cons (de_ty (n := "bool") rfl T.f_bool (by decide +kernel)) da_nil)))))))) ⟨rfl, rfl⟩ ?st ?_
  case st => walk_at "start"
  walk_at "dd"
  refine c_isi (tyK rfl) rfl T.i_Nint ?_
  walk_at "dd"
  refine c_isi (tyK rfl) rfl T.i_Bint ?_
  walk_at "dd"
  exact q
theorem gcd_stepN {g s : Int} (hg : 0 ≤ g) (hs : 0 < s) : Int.gcd s (g % s) = Int.gcd g s := by
  obtain ⟨n, rfl⟩ := Int.eq_ofNat_of_zero_le hg
  obtain ⟨m, rfl⟩ := Int.eq_ofNat_of_zero_le (Int.le_of_lt hs)
  rw [← Int.natCast_emod, Int.gcd_natCast_natCast, Int.gcd_natCast_natCast, Nat.gcd_comm n m, Nat.gcd_rec m n, Nat.gcd_comm]
theorem ok_common_divisor (T : Tx K mg) {a b : Int} (ha : 0 ≤ a) (hb : 0 < b) (q : Q (.v (.int (Int.gcd a b : Nat))) S) : sFun (bs P w K mg base) 1 (.ref (He.ga K "common_divisor")) [] [.int a, .int b] [] S Ex Q := by
  refine' call_d (B := bs P w K mg base) 0 (Classical.choose_spec T.d_common_divisor) sc_common_divisor rfl (bm_all (ps := ["first", "second"]) (Classical.choose_spec T.d_common_divisor) (fun _ _ _ _ _ _ us hl => match us, hl with | [_, _], _ => rfl)) (dss_cons (ds_par (i := 2) (j := 3) rfl rfl rfl (by decide) rfl rfl (da_cons (de_callB (id := "abs") rfl T.f_abs (by decide +kernel) (da_cons (dv 0) da_nil)) (da_cons (de_callB (id := "abs") rfl T.f_abs (by decide +kernel) (da_cons (dv 1) da_nil)) da_nil)) (fun env h => by cases env; cases h; rfl)) (dss_cons (ds_while rfl (dt_cmp (dv 3) de_int) (dss_one (ds_par (i := 2) (j := 3) rfl rfl rfl (by decide) rfl rfl (da_cons (dv 3) (da_cons (de_bin (dv 2) (dv 3)) da_nil)) (fun env h => by cases env; cases h; rfl)))) (dss_one (ds_ret (dv 2))))) ⟨rfl, rfl⟩ ?st ?_
  case st => walk_at "start"
  walk_at "dd"
  rw [if_neg (by omega), if_neg (by omega)]
  refine ⟨fun m ρ S' => S' = S ∧ ∃ g s : Int, ρ = [.sh (.int a), .sh (.int b), .sh (.int g), .sh (.int s)] ∧ 0 ≤ g ∧ 0 ≤ s ∧ m = s.toNat ∧ Int.gcd g s = Int.gcd a b, ⟨b.toNat, rfl, a, b, rfl, ha, by omega, rfl, rfl⟩, ?_⟩
  rintro m ρ S' ⟨rfl, g, s, rfl, hg, hs, rfl, e⟩
  walk_at "dd"
  refine i_two (fun h => ?_) fun h => ?_
  · walk_at "dd"
    have h1 := Int.emod_nonneg g (show s ≠ 0 by omega)
    have h2 := Int.emod_lt_of_pos g h
    exact ⟨(g % s).toNat, by omega, rfl, s, g % s, rfl, by omega, h1, rfl, (gcd_stepN hg h).trans e⟩
  · walk_at "dd"
    obtain rfl : s = 0 := by omega
    have e2 : Int.gcd g 0 = g.natAbs := Int.gcd_zero_right g
    rw [e2] at e
    have e3 : ((Int.gcd a b : Nat) : Int) = g := by omega
    rw [e3] at q
    exact q
theorem ok_check_plan (T : Tx K mg) {rs : List (List Nat)} (q : Q (.v .non) S) : sFun (bs P w K mg base) 3 (.ref (He.ga K "check_plan")) [] [planD rs] [] S Ex Q := by
  refine' call_d (B := bs P w K mg base) 2 (Classical.choose_spec T.d_check_plan) sc_check_plan rfl (bm_all (ps := ["plan"]) (Classical.choose_spec T.d_check_plan) (fun _ _ _ _ _ _ us hl => match us, hl with | [_], _ => rfl)) (dss_one (ds_if (dt_not (dt_val (de_callB (id := "isinstance") rfl T.f_isinstance (by decide +kernel) (da_cons (dv 0) (da_cons (de_cls rfl T.g_Plan) da_nil))))) (dss_one ds_never) dss_nil)) ⟨rfl, rfl⟩ ?st ?_
  case st => walk_at "start"
  walk_at "dd"
  refine c_isi (tyI isI_ins T.in_Plan) rfl T.i_PP ?_
  walk_at "dd"
  exact q
theorem ok_check_range (T : Tx K mg) {i lo hi : Int} (h0 : lo ≤ i) (h1 : i ≤ hi) (q : Q (.v .non) S) : sFun (bs P w K mg base) 3 (.ref (He.ga K "check_range")) [] [.int i, .int lo, .int hi] [] S Ex Q := by
  refine' call_d (B := bs P w K mg base) 2 (Classical.choose_spec T.d_check_range) sc_check_range rfl (bm_all (ps := ["number", "least", "most"]) (Classical.choose_spec T.d_check_range) (fun _ _ _ _ _ _ us hl => match us, hl with | [_, _, _], _ => rfl)) (dss_one (ds_if (DW.dt (dw_or (dt_not (dt_val (de_call rfl rfl ⟨T.g_is_integer, (Classical.choose_spec T.d_is_integer).kp⟩ (da_cons (dv 0) da_nil)))) (dw_or (dt_cmp (dv 0) (dv 1)) (dw_or1 (dt_cmp (dv 0) (dv 2)))))) (dss_one ds_never) dss_nil)) ⟨rfl, rfl⟩ ?st ?_
  case st => walk_at "start"
  walk_at "dd"
  refine (ok_isint T ?_).mono (Nat.le_of_ble_eq_true rfl)
  walk_at "dd"
  rw [decide_eq_false (show ¬ i < lo by omega)]
  walk_at "dd"
  rw [decide_eq_false (show ¬ hi < i by omega)]
  walk_at "dd"
  exact q
def SIZ : Int := 1000000000000000000000000000000000000000000000000000000000000000000000000000000000000000000000000000000000000000000000000000000000000000000000000000000
theorem ok_check_size0 (T : Tx K mg) {i lo : Int} (h0 : lo ≤ i) (h1 : i ≤ 1000000000000000000000000000000000000000000000000000000000000000000000000000000000000000000000000000000000000000000000000000000000000000000000000000000) (q : Q (.v .non) S) : sFun (bs P w K mg base) 3 (.ref (He.ga K "check_size")) [] [.int i, .int lo] [] S Ex Q := by
  refine' call_d (B := bs P w K mg base) 2 (Classical.choose_spec T.d_check_size) sc_check_size rfl (bm_all (ps := ["size", "least"]) (Classical.choose_spec T.d_check_size) (fun _ _ _ _ _ _ us hl => match us, hl with | [_, _], _ => rfl)) (dss_one (ds_if (DW.dt (dw_or (dt_not (dt_val (de_call rfl rfl ⟨T.g_is_integer, (Classical.choose_spec T.d_is_integer).kp⟩ (da_cons (dv 0) da_nil)))) (dw_or (dt_cmp (dv 0) (dv 1)) (dw_or1 (dt_cmp (dv 0) (de_gint rfl T.c_SIZE)))))) (dss_one ds_never) dss_nil)) ⟨rfl, rfl⟩ ?st ?_
  case st => walk_at "start"
  walk_at "dd"
  refine (ok_isint T ?_).mono (Nat.le_of_ble_eq_true rfl)
  walk_at "dd"
  rw [decide_eq_false (show ¬ i < lo by omega)]
  walk_at "dd"
  rw [decide_eq_false (show ¬ 1000000000000000000000000000000000000000000000000000000000000000000000000000000000000000000000000000000000000000000000000000000000000000000000000000000 < i by omega)]
  walk_at "dd"
  exact q
theorem ok_check_size (T : Tx K mg) {i lo : Int} (h0 : lo ≤ i) (h1 : i ≤ SIZ) (q : Q (.v .non) S) : sFun (bs P w K mg base) 3 (.ref (He.ga K "check_size")) [] [.int i, .int lo] [] S Ex Q := ok_check_size0 T h0 h1 q
theorem ok_check_marked (T : Tx K mg) {i n : Int} (h0 : 0 ≤ i) (h1 : i ≤ n) (q : Q (.v .non) S) : sFun (bs P w K mg base) 3 (.ref (He.ga K "check_marked")) [] [.int i, .int n] [] S Ex Q := by
  refine' call_d (B := bs P w K mg base) 2 (Classical.choose_spec T.d_check_marked) sc_check_marked rfl (bm_all (ps := ["marked", "size"]) (Classical.choose_spec T.d_check_marked) (fun _ _ _ _ _ _ us hl => match us, hl with | [_, _], _ => rfl)) (dss_one (ds_if (DW.dt (dw_or (dt_not (dt_val (de_call rfl rfl ⟨T.g_is_integer, (Classical.choose_spec T.d_is_integer).kp⟩ (da_cons (dv 0) da_nil)))) (dw_or (dt_cmp (dv 0) de_int) (dw_or1 (dt_cmp (dv 0) (dv 1)))))) (dss_one ds_never) dss_nil)) ⟨rfl, rfl⟩ ?st ?_
  case st => walk_at "start"
  walk_at "dd"
  refine (ok_isint T ?_).mono (Nat.le_of_ble_eq_true rfl)
  walk_at "dd"
  rw [decide_eq_false (show ¬ i < 0 by omega)]
  walk_at "dd"
  rw [decide_eq_false (show ¬ n < i by omega)]
  walk_at "dd"
  exact q
theorem ok_check_table (T : Tx K mg) {rs : List (List Nat)} {N M : Int} (n0 : (rs.length : Int) - 1 ≤ N) (n1 : N ≤ SIZ) (m0 : 0 ≤ M) (m1 : M ≤ N) (q : Q (.v .non) S) : sFun (bs P w K mg base) 4 (.ref (He.ga K "check_table")) [] [planD rs, .int N, .int M] [] S Ex Q := by
  refine' call_d (B := bs P w K mg base) 3 (Classical.choose_spec T.d_check_table) sc_check_table rfl (bm_all (ps := ["plan", "size", "marked"]) (Classical.choose_spec T.d_check_table) (fun _ _ _ _ _ _ us hl => match us, hl with | [_, _, _], _ => rfl)) (dss_cons (ds_expr (de_call rfl rfl ⟨T.g_check_size, (Classical.choose_spec T.d_check_size).kp⟩ (da_cons (dv 1) (da_cons (de_attr (dv 0)) da_nil)))) (dss_one (ds_expr (de_call rfl rfl ⟨T.g_check_marked, (Classical.choose_spec T.d_check_marked).kp⟩ (da_cons (dv 2) (da_cons (dv 1) da_nil)))))) ⟨rfl, rfl⟩ ?st ?_
  case st => walk_at "start"
  walk_at "dd"
  refine sAttr_f isI_ins T.cl_Plan T.n_Plan_longest rfl ?_
  walk_at "dd"
  refine (ok_check_size T n0 n1 ?_).mono (Nat.le_of_ble_eq_true rfl)
  walk_at "dd"
  have e : 3 ≤ 3 := Nat.le_refl _
  refine (ok_check_marked T m0 m1 ?_).mono e
  exact q
abbrev ratD (t b : Int) : D := .ins "Ratio" [("top", .int t), ("bottom", .int b)]
theorem ok_Ratio (T : Tx K mg) {a b : Int} {kb : Nat} (ha : 0 ≤ a) (hb : 0 < b) (bd : Bd kb b) (k0 : 0 < kb) (k9 : kb ≤ 9000) (q : Q (.v (ratD (a / (Int.gcd a b : Nat)) (b / (Int.gcd a b : Nat)))) S) : sFun (bs P w K mg base) 4 (.ref (He.ga K "Ratio")) [] [.int a, .int b] [] S Ex Q := by
  refine' call_m (B := bs P w K mg base) 2 T.mk_Ratio (Classical.choose_spec T.d_Ratio__init) sc_Ratio__init rfl (bm_dfl (ps := ["self", "top", "bottom"]) (Classical.choose_spec T.d_Ratio__init) 3 1 (List.cons_ne_nil _ _) rfl (fun _ _ _ _ _ _ _ us its l1 l2 => match us, its, l1, l2 with | [_, _, _], [_], _, _ => ⟨_, rfl, rfl⟩) (fun _ => .nil)) (dss_cons (ds_if (dt_not (dt_val (de_call rfl rfl ⟨T.g_is_integer, (Classical.choose_spec T.d_is_integer).kp⟩ (da_cons (dv 1) da_nil)))) (dss_one ds_never) dss_nil) (dss_cons (ds_if (DW.dt (dw_or (dt_not (dt_val (de_call rfl rfl ⟨T.g_is_integer, (Classical.choose_spec T.d_is_integer).kp⟩ (da_cons (dv 2) da_nil)))) (dw_or1 (dt_cmp (dv 2) de_int)))) (dss_one ds_never) dss_nil) (dss_cons (dst 3 (de_call rfl rfl ⟨T.g_common_divisor, (Classical.choose_spec T.d_common_divisor).kp⟩ (da_cons (dv 1) (da_cons (dv 2) da_nil)))) (dss_cons (ds_self (i := 0) rfl (.inl rfl) (de_bin (dv 1) (dv 3))) (dss_one (ds_self (i := 0) rfl (.inl rfl) (de_bin (dv 2) (dv 3)))))))) ⟨rfl, rfl⟩ ?st ?_
  case st => walk_at "start"
  walk_at "dd"
  refine (ok_isint T ?_).mono (Nat.le_of_ble_eq_true rfl)
  walk_at "dd"
  refine (ok_isint T ?_).mono (Nat.le_of_ble_eq_true rfl)
  walk_at "dd"
  rw [decide_eq_false (show ¬ b < 1 by omega)]
  walk_at "dd"
  refine (ok_common_divisor T ha hb ?_).mono (Nat.le_of_ble_eq_true rfl)
  have g0 : 0 < Int.gcd a b := Int.gcd_pos_of_ne_zero_right _ (by omega)
  have gb : (Int.gcd a b : Int) ≤ b := Int.le_of_dvd hb (Int.gcd_dvd_right ..)
  have g1 : CDivW a (Int.gcd a b : Nat) := Bd.div (bd.le (by omega)) (by omega) k0 k9
  have g2 : CDivW b (Int.gcd a b : Nat) := Bd.div (bd.le (by omega)) (by omega) k0 k9
  clear gb g0 bd
  generalize ((Int.gcd a b : Nat) : Int) = g at g1 g2 q ⊢
  walk_at "dd"
  refine' f_fldS ?e1 T.cl_Ratio T.n_Ratio_top ?l1 ?_
  case e1 => exact rfl
  case l1 => decide
  walk_at "dd"
  refine ⟨_, _, _, rfl, rfl, T.cl_Ratio, T.n_Ratio_bottom, Nat.le_of_ble_eq_true rfl, ?_⟩
  exact ⟨_, rfl, .inl q⟩
end Toy

set_option Elab.async false
set_option linter.all false
set_option maxRecDepth 100000
set_option maxHeartbeats 8000000
namespace Toy
open PySem PySem.Spec PyProof.Rows L2 My Dt SX Pln
local macro_rules | `(tactic| walk_at "rg") => `(tactic| first
  | omega
  | ((refine And.intro ?_ (And.intro ?_ (And.intro ?_ ?_))) <;> omega))
local macro_rules | `(tactic| walk_at "ls") => `(tactic| first
  | with_reducible exact ls_v
  | with_reducible exact ls_b
  | ((with_reducible refine' ls_p ?hlp); (case hlp => with_reducible assumption)))
local macro_rules | `(tactic| walk_at "start") => `(tactic| ((simp only [startM, startS, List.map_cons, List.map_nil, List.length_cons, List.length_nil, List.cons_append, List.nil_append, Nat.reduceAdd, Nat.reduceSub, List.replicate_succ, List.replicate_zero]); exact rfl))
local macro_rules | `(tactic| walk_at "set") => `(tactic| first
  | ((dsimp only [Int.reduceToNat, List.set_cons_zero, List.set_cons_succ, VO.sl]); done)
  | ((dsimp only [Int.reduceToNat, List.set_cons_zero, List.set_cons_succ, VO.sl]); exact rfl)
  | exact rfl)
local macro_rules | `(tactic| walk_at "sz") => `(tactic| first
  | exact sz_of (Nat.le_of_ble_eq_true rfl)
  | (apply sz_of; simp only [List.length_cons, List.length_nil, List.length_append, List.length_map]; omega))
local macro_rules | `(tactic| walk_at "side") => `(tactic| first
  | with_reducible assumption
  | omega
  | exact ml (by omega) (by omega)
  | exact mr (by omega) (by omega)
  | exact dv (by omega) (by omega)
  | exact Bd.mulOk (by with_reducible assumption) (by with_reducible assumption) (by decide) (by decide) (by decide)
  | exact Bd.div (by with_reducible assumption) (by omega) (by decide) (by decide)
  | (show (0 : Int) < _; omega)
  | exact ⟨by decide, by decide, by decide⟩
  | decide
  | exact rfl)
local macro_rules | `(tactic| walk_at "st") => `(tactic| first
  | with_reducible refine q_seq ?_
  | with_reducible refine q_end ?_
  | with_reducible refine q_nil ?_
  | with_reducible refine q_asg ?_
  | with_reducible refine q_ret ?_
  | with_reducible refine q_if ?_
  | with_reducible refine q_expr ?_
  | with_reducible refine q_retN ?_
  | with_reducible refine q_sub ?_
  | with_reducible refine q_for ?_
  | with_reducible refine q_par ?_
  | with_reducible refine q_par3 ?_
  | with_reducible refine q_parV ?_
  | with_reducible refine q_parV3 ?_
  | with_reducible refine q_asgF ?_
  | with_reducible refine q_asgC ?_
  | ((with_reducible refine' q_frz ?ef ?_); (case ef => exact rfl))
  | ((with_reducible refine' q_app ?ea ?eb ?_); (case ea => exact rfl); (case eb => walk_at "slen"))
  | with_reducible refine q_brk ?_
  | with_reducible refine q_cnt ?_
  | with_reducible refine q_fldS ?_
  | with_reducible refine q_fldP ?_
  | with_reducible refine q_raise ?_
  | with_reducible refine q_try ?_)
local macro_rules | `(tactic| walk_at "slen") => `(tactic| first
  | with_reducible assumption
  | ((rw [sizeLine_eq]); (simp only [List.length_cons, List.length_nil, List.length_append, List.length_map]); omega))
local macro_rules | `(tactic| walk_at "sm") => `(tactic| first
  | with_reducible refine s_add ?_
  | with_reducible refine s_sub ?_
  | ((with_reducible refine' s_mul ?hm ?_); (case hm => walk_at "side"))
  | ((with_reducible refine' s_fdiv ?hm ?_); (case hm => walk_at "side"))
  | ((with_reducible refine' s_mod ?hm ?_); (case hm => walk_at "side"))
  | with_reducible refine s_neg ?_
  | ((with_reducible refine' s_pow ?hm ?_); (case hm => walk_at "side"))
  | ((with_reducible refine' s_ixL ?hl ?he ?_); (case hl => walk_at "ls"); (case he => exact rfl))
  | ((with_reducible refine' s_ixT ?he ?_); (case he => exact rfl))
  | ((with_reducible refine' set_L2 ?ha ?hb ?hc ?_); (case ha => with_reducible assumption); (case hb => exact rfl); (case hc => walk_at "set"))
  | with_reducible refine s_addB ?_
  | with_reducible refine s_lt ?_
  | with_reducible refine s_le ?_
  | with_reducible refine s_gt ?_
  | with_reducible refine s_ge ?_
  | with_reducible refine s_eq ?_
  | with_reducible refine s_ne ?_
  | with_reducible refine s_eqS ?_
  | with_reducible refine s_neS ?_
  | with_reducible refine s_isN ?_
  | with_reducible refine s_isNotN ?_
  | with_reducible refine t_bl ?_)
local macro_rules | `(tactic| walk_at "cl") => `(tactic| first
  | with_reducible refine c_int ?_
  | with_reducible refine c_intB ?_
  | with_reducible refine c_abs ?_
  | ((with_reducible refine' c_max ?hm ?_); (case hm => exact rfl))
  | ((with_reducible refine' c_min ?hm ?_); (case hm => exact rfl))
  | ((with_reducible refine' c_divmod ?hm ?_); (case hm => walk_at "side"))
  | ((with_reducible refine' c_len ?hm ?_); (case hm => walk_at "sq"))
  | ((with_reducible refine' c_list ?hm ?_); (case hm => walk_at "sq"))
  | ((with_reducible refine' c_tuple ?hm ?_); (case hm => walk_at "sq")))
local macro_rules | `(tactic| walk_at "sq") => `(tactic| first
  | exact sqL
  | exact sqT
  | exact sqB
  | exact sqP (by with_reducible assumption))
local macro_rules | `(tactic| walk_at "v") => `(tactic| first
  | ((with_reducible refine' v_sh ?ev ?_); (case ev => exact rfl))
  | ((with_reducible refine' v_ol ?ev ?_); (case ev => exact rfl))
  | ((with_reducible refine' v_slf ?ev ?_); (case ev => exact rfl))
  | with_reducible refine q_val ?_
  | ((with_reducible refine' q_walk ?ew ?_); (case ew => exact rfl))
  | ((with_reducible refine' q_rng1 ?ej ?ek ?_); (case ej => walk_at "rg"); (case ek => walk_at "rg"))
  | ((with_reducible refine' q_rng2 ?ej ?_); (case ej => walk_at "rg"))
  | with_reducible refine q_rngL ?_
  | with_reducible refine q_solc ?_
  | with_reducible refine q_sol0 ?_
  | ((with_reducible refine' q_gname ?eg ?_); (case eg => walk_at "set"))
  | ((with_reducible refine' n_set ?eg ?_); (case eg => walk_at "set"))
  | ((with_reducible refine' n_set2 ?eg ?_); (case eg => walk_at "set"))
  | ((with_reducible refine' n_set3 ?eg ?_); (case eg => walk_at "set"))
  | with_reducible refine q_two ?_
  | with_reducible refine q_three ?_
  | with_reducible refine q_vv ?_
  | with_reducible refine q_isS ?_
  | with_reducible refine q_isL ?_
  | with_reducible refine q_twoV ?_
  | with_reducible refine q_threeV ?_
  | with_reducible refine q_bl ?_
  | with_reducible refine q_oint ?_
  | ((with_reducible refine' q_gtup ?el ?_); (case el => exact rfl))
  | with_reducible refine q_gcons ?_
  | with_reducible refine q_gnil ?_
  | with_reducible refine i_t ?_
  | with_reducible refine i_f ?_
  | with_reducible refine i_nt ?_
  | with_reducible refine i_nf ?_
  | ((with_reducible refine' n_t ?en ?_); (case en => exact rfl))
  | ((with_reducible refine' n_f ?en ?_); (case en => exact rfl))
  | ((with_reducible refine' nn_t ?en ?_); (case en => exact rfl))
  | ((with_reducible refine' nn_f ?en ?_); (case en => exact rfl))
  | with_reducible refine And.intro (by walk_at "sz") ?_)
local macro_rules | `(tactic| walk_at "d") => `(tactic| first
  | walk_at "v"
  | walk_at "st"
  | walk_at "sm"
  | walk_at "cl"
  | walk_at "at")
local macro_rules | `(tactic| walk_at "dd") => `(tactic| repeat walk_at "d")
local macro_rules | `(tactic| walk_at "tx") => `(tactic| simp only [l_dash, l_dot, l_nil, l_space, l_figs, l_signs])

variable {P : Program} {w : World} {K : PySem.W.Frag} {mg : Str → Option Value} {base : Heap} {S : Sto} {Ex : XS} {Q : QO}

/-! sizes of what is counted -/
theorem bd_nat {n k : Nat} (h : n < 2 ^ k) : Bd k (n : Int) := by
  unfold Bd
  rw [Int.natAbs_natCast]
  exact h
theorem bd_fall {b : Nat} {t : Int} (h : Bd b t) : ∀ {n : Nat}, n ≤ 20 → Bd ((b + 6) * n + 1) (fall t n)
  | 0, _ => by
    show Bd ((b + 6) * 0 + 1) 1
    unfold Bd
    rw [Nat.mul_zero]
    decide
  | n + 1, hn => by
    have a := bd_fall h (n := n) (by omega)
    have c : Bd (b + 5 + 1) (t - (n : Int)) := h.sub (bd_nat (by omega))
    have m := a.mul c
    show Bd ((b + 6) * (n + 1) + 1) (fall t n * (t - n))
    exact m.mono (by rw [Nat.mul_add]; omega)
theorem way_le {rs : List (List Nat)} : ∀ {m k : Nat}, way rs m k ≤ 2 ^ m
  | 0, k => by
    show (if k = 0 then 1 else 0) ≤ 1
    split <;> omega
  | m + 1, k => by
    have a := way_le (rs := rs) (m := m) (k := k)
    have c := way_le (rs := rs) (m := m) (k := k - 1)
    show (if k ≤ m ∧ sgn rs m k = 45 then way rs m k else 0) + (if 0 < k ∧ k ≤ m + 1 ∧ sgn rs m (k - 1) = 45 then way rs m (k - 1) else 0) ≤ 2 ^ (m + 1)
    rw [Nat.pow_succ]
    split <;> split <;> omega
theorem ok_product_down (T : Tx K mg) {t : Int} {n b : Nat} (bt : Bd b t) (hb : b ≤ 2000) (hn : n ≤ 20) (q : Q (.v (.int (fall t n))) S) : sFun (bs P w K mg base) 1 (.ref (He.ga K "product_down")) [] [.int t, .int n] [] S Ex Q := by
  refine' call_d (B := bs P w K mg base) 0 (Classical.choose_spec T.d_product_down) sc_product_down rfl (bm_all (ps := ["top", "times"]) (Classical.choose_spec T.d_product_down) (fun _ _ _ _ _ _ us hl => match us, hl with | [_, _], _ => rfl)) (dss_cons (dst 2 de_int) (dss_cons (ds_for rfl rfl (di_range1 rfl T.f_range (da_cons (dv 1) da_nil)) (dgn 3) (dss_one (dst 2 (de_bin (dv 2) (de_bin (dv 0) (dv 3)))))) (dss_one (ds_ret (dv 2))))) ⟨rfl, rfl⟩ ?st ?_
  case st => walk_at "start"
  walk_at "dd"
  refine loop_inv (fun i ρ S' => S' = S ∧ i ≤ n ∧ ∃ x3 : Sl, ρ = [.sh (.int t), .sh (.int n), .sh (.int (fall t i)), x3]) ⟨rfl, Nat.zero_le _, _, rfl⟩ ?_ ?_
  · rintro i x ρ S' Nx hx ⟨rfl, hi, x3, rfl⟩ hN
    obtain ⟨hi2, rfl⟩ := rngD_at hx
    rw [Int.toNat_natCast] at hi2
    rw [Int.zero_add]
    have bf := bd_fall bt (n := i) (by omega)
    have bs : Bd (b + 5 + 1) (t - (i : Int)) := bt.sub (bd_nat (by omega))
    have pz : (b + 6) * i ≤ 2006 * 20 := Nat.mul_le_mul (by omega) (by omega)
    have mok : IntMulOk (fall t i) (t - (i : Int)) := bf.mulOk bs (by omega) (by omega) (by omega)
    clear bf bs pz bt
    walk_at "dd"
    exact hN _ _ ⟨rfl, hi2, _, rfl⟩
  · rintro ρ S' ⟨rfl, _, x3, rfl⟩
    rw [rngD_len, Int.toNat_natCast]
    walk_at "dd"
    exact q
abbrev stD (s : Stp) : D := .tup [.int s.m, .int s.k, .int s.c, .int s.w]
structure StOk (L : Nat) (s : Stp) : Prop where
  k : s.k ≤ s.m
  m : s.m ≤ L
  w : s.w ≤ 2 ^ 20
theorem bd_drw {L b : Nat} {N M : Int} {s : Stp} (o : StOk L s) (hL : L ≤ 20) (bN : Bd b N) (bM : Bd b M) (hb : b ≤ 600) : Bd 200000 (drw L N M s) := by
  have h1 := o.k
  have h2 := o.m
  have f1 := bd_fall bM (n := s.k) (by omega)
  have f2 := bd_fall (bN.sub bM) (n := s.m - s.k) (by omega)
  have f3 := bd_fall (bN.sub (bd_nat (n := s.m) (k := 5) (by omega))) (n := L - s.m) (by omega)
  have w1 : Bd 21 (s.w : Int) := bd_nat (by have := o.w; omega)
  have m := ((w1.mul f1).mul f2).mul f3
  refine m.mono ?_
  have e1 : (b + 6) * s.k ≤ 606 * 20 := Nat.mul_le_mul (by omega) (by omega)
  have e2 : (b + b + 1 + 6) * (s.m - s.k) ≤ 1207 * 20 := Nat.mul_le_mul (by omega) (by omega)
  have e3 : (b + 5 + 1 + 6) * (L - s.m) ≤ 612 * 20 := Nat.mul_le_mul (by omega) (by omega)
  omega
theorem ok_stop_draws (T : Tx K mg) {L b : Nat} {N M : Int} {s : Stp} (o : StOk L s) (hL : L ≤ 20) (bN : Bd b N) (bM : Bd b M) (hb : b ≤ 600) (q : Q (.v (.int (drw L N M s))) S) : sFun (bs P w K mg base) 2 (.ref (He.ga K "stop_draws")) [] [stD s, .int L, .int N, .int M] [] S Ex Q := by
  refine' call_d (B := bs P w K mg base) 1 (Classical.choose_spec T.d_stop_draws) sc_stop_draws rfl (bm_all (ps := ["stop", "longest", "size", "marked"]) (Classical.choose_spec T.d_stop_draws) (fun _ _ _ _ _ _ us hl => match us, hl with | [_, _, _, _], _ => rfl)) (dss_cons (ds_par3 (i := 4) (j := 5) (l := 6) rfl rfl rfl rfl (by decide) (by decide) (by decide) rfl rfl rfl (da_cons (de_ix (dv 0) de_int (fun _ _ => rfl)) (da_cons (de_ix (dv 0) de_int (fun _ _ => rfl)) (da_cons (de_ix (dv 0) de_int (fun _ _ => rfl)) da_nil))) (fun env h => by cases env; cases h; rfl)) (dss_cons (dst 7 (de_call rfl rfl ⟨T.g_product_down, (Classical.choose_spec T.d_product_down).kp⟩ (da_cons (de_bin (dv 2) (dv 4)) (da_cons (de_bin (dv 1) (dv 4)) da_nil)))) (dss_one (ds_ret (de_bin (de_bin (de_bin (dv 6) (de_call rfl rfl ⟨T.g_product_down, (Classical.choose_spec T.d_product_down).kp⟩ (da_cons (dv 3) (da_cons (dv 5) da_nil)))) (de_call rfl rfl ⟨T.g_product_down, (Classical.choose_spec T.d_product_down).kp⟩ (da_cons (de_bin (dv 2) (dv 3)) (da_cons (de_bin (dv 4) (dv 5)) da_nil)))) (dv 7)))))) ⟨rfl, rfl⟩ ?st ?_
  case st => walk_at "start"
  have h1 := o.k
  have h2 := o.m
  have a0 : L2.atI [D.int s.m, .int s.k, .int s.c, .int s.w] (0 : Int) = some (.int s.m) := rfl
  have a1 : L2.atI [D.int s.m, .int s.k, .int s.c, .int s.w] (1 : Int) = some (.int s.k) := rfl
  have a3 : L2.atI [D.int s.m, .int s.k, .int s.c, .int s.w] (3 : Int) = some (.int s.w) := rfl
  walk_at "dd"
  rw [show (L : Int) - (s.m : Int) = ((L - s.m : Nat) : Int) by omega]
  refine (ok_product_down T (b := b + 5 + 1) (bN.sub (bd_nat (n := s.m) (k := 5) (by omega))) (by omega) (by omega) ?_).mono (Nat.le_of_ble_eq_true rfl)
  have f1 := bd_fall bM (n := s.k) (by omega)
  have f2 := bd_fall (bN.sub bM) (n := s.m - s.k) (by omega)
  have f3 := bd_fall (bN.sub (bd_nat (n := s.m) (k := 5) (by omega))) (n := L - s.m) (by omega)
  have w1 : Bd 21 (s.w : Int) := bd_nat (by have := o.w; omega)
  have e1 : (b + 6) * s.k ≤ 606 * 20 := Nat.mul_le_mul (by omega) (by omega)
  have e2 : (b + b + 1 + 6) * (s.m - s.k) ≤ 1207 * 20 := Nat.mul_le_mul (by omega) (by omega)
  have e3 : (b + 5 + 1 + 6) * (L - s.m) ≤ 612 * 20 := Nat.mul_le_mul (by omega) (by omega)
  have m1 : IntMulOk (s.w : Int) (fall M s.k) := w1.mulOk f1 (by omega) (by omega) (by omega)
  have m2 : IntMulOk ((s.w : Int) * fall M s.k) (fall (N - M) (s.m - s.k)) := (w1.mul f1).mulOk f2 (by omega) (by omega) (by omega)
  have m3 : IntMulOk ((s.w : Int) * fall M s.k * fall (N - M) (s.m - s.k)) (fall (N - s.m) (L - s.m)) := ((w1.mul f1).mul f2).mulOk f3 (by omega) (by omega) (by omega)
  clear f1 f2 f3 w1 e1 e2 e3
  walk_at "dd"
  refine (ok_product_down T (b := b) bM (by omega) (by omega) ?_).mono (Nat.le_of_ble_eq_true rfl)
  walk_at "dd"
  rw [show (s.m : Int) - (s.k : Int) = ((s.m - s.k : Nat) : Int) by omega]
  refine (ok_product_down T (b := b + b + 1) (bN.sub bM) (by omega) (by omega) ?_).mono (Nat.le_of_ble_eq_true rfl)
  walk_at "dd"
  exact q
/-! the states that stop -/
def wayD (rs : List (List Nat)) (m : Nat) : D := .lst ((List.range (m + 1)).map fun k => .int (way rs m k : Nat))
/-- a row's ways behind j states of the row above -/
def cnt (rs : List (List Nat)) (m j k : Nat) : Nat := (if k < j ∧ k ≤ m ∧ sgn rs m k = 45 then way rs m k else 0) + if 0 < k ∧ k - 1 < j ∧ k ≤ m + 1 ∧ sgn rs m (k - 1) = 45 then way rs m (k - 1) else 0
theorem cnt_all {rs : List (List Nat)} {m k : Nat} (hk : k ≤ m + 1) : cnt rs m (m + 1) k = way rs (m + 1) k := by
  show _ = (if k ≤ m ∧ sgn rs m k = 45 then way rs m k else 0) + (if 0 < k ∧ k ≤ m + 1 ∧ sgn rs m (k - 1) = 45 then way rs m (k - 1) else 0)
  unfold cnt
  congr 1
  · by_cases c : k ≤ m ∧ sgn rs m k = 45
    · rw [if_pos c, if_pos ⟨by omega, c⟩]
    · rw [if_neg c, if_neg fun z => c z.2]
  · by_cases c : 0 < k ∧ k ≤ m + 1 ∧ sgn rs m (k - 1) = 45
    · rw [if_pos c, if_pos ⟨c.1, by omega, c.2⟩]
    · rw [if_neg c, if_neg fun z => c ⟨z.1, z.2.2⟩]
theorem cnt_zero {rs : List (List Nat)} {m k : Nat} : cnt rs m 0 k = 0 := by
  unfold cnt
  rw [if_neg (by omega), if_neg (by omega)]
theorem cnt_skip {rs : List (List Nat)} {m j k : Nat} (h : sgn rs m j ≠ 45) : cnt rs m (j + 1) k = cnt rs m j k := by
  unfold cnt
  congr 1
  · by_cases c : k < j ∧ k ≤ m ∧ sgn rs m k = 45
    · rw [if_pos c, if_pos ⟨by omega, c.2⟩]
    · rw [if_neg c, if_neg]
      rintro ⟨a, b, d⟩
      by_cases e : k = j
      · rw [e] at d
        exact h d
      · exact c ⟨by omega, b, d⟩
  · by_cases c : 0 < k ∧ k - 1 < j ∧ k ≤ m + 1 ∧ sgn rs m (k - 1) = 45
    · rw [if_pos c, if_pos ⟨c.1, by omega, c.2.2⟩]
    · rw [if_neg c, if_neg]
      rintro ⟨a, b, d, f⟩
      by_cases e : k - 1 = j
      · rw [e] at f
        exact h f
      · exact c ⟨a, by omega, d, f⟩
theorem set_range {n j : Nat} {f : Nat → Nat} {v : Nat} (hj : j < n) : (((List.range n).map fun k => D.int (f k : Nat)).set j (.int (v : Nat))) = (List.range n).map fun k => D.int ((if k = j then v else f k) : Nat) := by
  refine List.ext_getElem (by simp) fun k h1 h2 => ?_
  rw [List.getElem_set]
  simp only [List.getElem_map, List.getElem_range]
  by_cases c : j = k
  · rw [if_pos c, if_pos c.symm]
  · rw [if_neg c, if_neg fun z => c z.symm]
theorem cnt_step {rs : List (List Nat)} {m j : Nat} (hj : j ≤ m) (h : sgn rs m j = 45) (k : Nat) : cnt rs m (j + 1) k = if k = j + 1 then cnt rs m j (j + 1) + way rs m j else if k = j then cnt rs m j j + way rs m j else cnt rs m j k := by
  unfold cnt
  by_cases c1 : k = j + 1
  · subst c1
    rw [if_pos rfl, if_neg (show ¬ (j + 1 < j + 1 ∧ _) by omega), if_pos (show 0 < j + 1 ∧ j + 1 - 1 < j + 1 ∧ j + 1 ≤ m + 1 ∧ sgn rs m (j + 1 - 1) = 45 from ⟨by omega, by omega, by omega, h⟩), if_neg (show ¬ (j + 1 < j ∧ _) by omega), if_neg (show ¬ (0 < j + 1 ∧ j + 1 - 1 < j ∧ _) by omega)]
    rw [Nat.add_sub_cancel]
  · rw [if_neg c1]
    by_cases c2 : k = j
    · subst c2
      rw [if_pos rfl, if_pos (show k < k + 1 ∧ k ≤ m ∧ sgn rs m k = 45 from ⟨by omega, hj, h⟩), if_neg (show ¬ (k < k ∧ _) by omega), Nat.zero_add]
      rw [Nat.add_comm]
      congr 1
      by_cases c3 : 0 < k ∧ k - 1 < k ∧ k ≤ m + 1 ∧ sgn rs m (k - 1) = 45
      · rw [if_pos c3, if_pos ⟨c3.1, by omega, c3.2.2⟩]
      · rw [if_neg c3, if_neg]
        rintro ⟨a, b, d⟩
        exact c3 ⟨a, by omega, d⟩
    · rw [if_neg c2]
      congr 1
      · by_cases c : k < j ∧ k ≤ m ∧ sgn rs m k = 45
        · rw [if_pos c, if_pos ⟨by omega, c.2⟩]
        · rw [if_neg c, if_neg]
          rintro ⟨a, b⟩
          exact c ⟨by omega, b⟩
      · by_cases c : 0 < k ∧ k - 1 < j ∧ k ≤ m + 1 ∧ sgn rs m (k - 1) = 45
        · rw [if_pos c, if_pos ⟨c.1, by omega, c.2.2⟩]
        · rw [if_neg c, if_neg]
          rintro ⟨a, b, d⟩
          exact c ⟨a, by omega, d⟩
end Toy

set_option Elab.async false
set_option linter.all false
set_option maxRecDepth 100000
set_option maxHeartbeats 8000000
namespace Toy
open PySem PySem.Spec PyProof.Rows L2 My Dt SX Pln
local macro_rules | `(tactic| walk_at "rg") => `(tactic| first
  | omega
  | ((refine And.intro ?_ (And.intro ?_ (And.intro ?_ ?_))) <;> omega))
local macro_rules | `(tactic| walk_at "ls") => `(tactic| first
  | with_reducible exact ls_v
  | with_reducible exact ls_b
  | ((with_reducible refine' ls_p ?hlp); (case hlp => with_reducible assumption)))
local macro_rules | `(tactic| walk_at "start") => `(tactic| ((simp only [startM, startS, List.map_cons, List.map_nil, List.length_cons, List.length_nil, List.cons_append, List.nil_append, Nat.reduceAdd, Nat.reduceSub, List.replicate_succ, List.replicate_zero]); exact rfl))
local macro_rules | `(tactic| walk_at "set") => `(tactic| first
  | ((dsimp only [Int.reduceToNat, List.set_cons_zero, List.set_cons_succ, VO.sl]); done)
  | ((dsimp only [Int.reduceToNat, List.set_cons_zero, List.set_cons_succ, VO.sl]); exact rfl)
  | exact rfl)
local macro_rules | `(tactic| walk_at "sz") => `(tactic| first
  | exact sz_of (Nat.le_of_ble_eq_true rfl)
  | (apply sz_of; simp only [List.length_cons, List.length_nil, List.length_append, List.length_map]; omega))
local macro_rules | `(tactic| walk_at "side") => `(tactic| first
  | with_reducible assumption
  | omega
  | exact ml (by omega) (by omega)
  | exact mr (by omega) (by omega)
  | exact dv (by omega) (by omega)
  | exact Bd.mulOk (by with_reducible assumption) (by with_reducible assumption) (by decide) (by decide) (by decide)
  | exact Bd.div (by with_reducible assumption) (by omega) (by decide) (by decide)
  | (show (0 : Int) < _; omega)
  | exact ⟨by decide, by decide, by decide⟩
  | decide
  | exact rfl)
local macro_rules | `(tactic| walk_at "st") => `(tactic| first
  | with_reducible refine q_seq ?_
  | with_reducible refine q_end ?_
  | with_reducible refine q_nil ?_
  | with_reducible refine q_asg ?_
  | with_reducible refine q_ret ?_
  | with_reducible refine q_if ?_
  | with_reducible refine q_expr ?_
  | with_reducible refine q_retN ?_
  | with_reducible refine q_sub ?_
  | with_reducible refine q_for ?_
  | with_reducible refine q_par ?_
  | with_reducible refine q_par3 ?_
  | with_reducible refine q_parV ?_
  | with_reducible refine q_parV3 ?_
  | with_reducible refine q_asgF ?_
  | with_reducible refine q_asgC ?_
  | ((with_reducible refine' q_frz ?ef ?_); (case ef => exact rfl))
  | ((with_reducible refine' q_app ?ea ?eb ?_); (case ea => exact rfl); (case eb => walk_at "slen"))
  | with_reducible refine q_brk ?_
  | with_reducible refine q_cnt ?_
  | with_reducible refine q_fldS ?_
  | with_reducible refine q_fldP ?_
  | with_reducible refine q_raise ?_
  | with_reducible refine q_try ?_)
local macro_rules | `(tactic| walk_at "slen") => `(tactic| first
  | with_reducible assumption
  | ((rw [sizeLine_eq]); (simp only [List.length_cons, List.length_nil, List.length_append, List.length_map]); omega))
local macro_rules | `(tactic| walk_at "sm") => `(tactic| first
  | with_reducible refine s_add ?_
  | with_reducible refine s_sub ?_
  | ((with_reducible refine' s_mul ?hm ?_); (case hm => walk_at "side"))
  | ((with_reducible refine' s_fdiv ?hm ?_); (case hm => walk_at "side"))
  | ((with_reducible refine' s_mod ?hm ?_); (case hm => walk_at "side"))
  | with_reducible refine s_neg ?_
  | ((with_reducible refine' s_pow ?hm ?_); (case hm => walk_at "side"))
  | ((with_reducible refine' s_ixL ?hl ?he ?_); (case hl => walk_at "ls"); (case he => exact rfl))
  | ((with_reducible refine' s_ixT ?he ?_); (case he => exact rfl))
  | ((with_reducible refine' set_L2 ?ha ?hb ?hc ?_); (case ha => with_reducible assumption); (case hb => exact rfl); (case hc => walk_at "set"))
  | with_reducible refine s_addB ?_
  | with_reducible refine s_lt ?_
  | with_reducible refine s_le ?_
  | with_reducible refine s_gt ?_
  | with_reducible refine s_ge ?_
  | with_reducible refine s_eq ?_
  | with_reducible refine s_ne ?_
  | with_reducible refine s_eqS ?_
  | with_reducible refine s_neS ?_
  | with_reducible refine s_isN ?_
  | with_reducible refine s_isNotN ?_
  | with_reducible refine t_bl ?_)
local macro_rules | `(tactic| walk_at "cl") => `(tactic| first
  | with_reducible refine c_int ?_
  | with_reducible refine c_intB ?_
  | with_reducible refine c_abs ?_
  | ((with_reducible refine' c_max ?hm ?_); (case hm => exact rfl))
  | ((with_reducible refine' c_min ?hm ?_); (case hm => exact rfl))
  | ((with_reducible refine' c_divmod ?hm ?_); (case hm => walk_at "side"))
  | ((with_reducible refine' c_len ?hm ?_); (case hm => walk_at "sq"))
  | ((with_reducible refine' c_list ?hm ?_); (case hm => walk_at "sq"))
  | ((with_reducible refine' c_tuple ?hm ?_); (case hm => walk_at "sq")))
local macro_rules | `(tactic| walk_at "sq") => `(tactic| first
  | exact sqL
  | exact sqT
  | exact sqB
  | exact sqP (by with_reducible assumption))
local macro_rules | `(tactic| walk_at "v") => `(tactic| first
  | ((with_reducible refine' v_sh ?ev ?_); (case ev => exact rfl))
  | ((with_reducible refine' v_ol ?ev ?_); (case ev => exact rfl))
  | ((with_reducible refine' v_slf ?ev ?_); (case ev => exact rfl))
  | with_reducible refine q_val ?_
  | ((with_reducible refine' q_walk ?ew ?_); (case ew => exact rfl))
  | ((with_reducible refine' q_rng1 ?ej ?ek ?_); (case ej => walk_at "rg"); (case ek => walk_at "rg"))
  | ((with_reducible refine' q_rng2 ?ej ?_); (case ej => walk_at "rg"))
  | with_reducible refine q_rngL ?_
  | with_reducible refine q_solc ?_
  | with_reducible refine q_sol0 ?_
  | ((with_reducible refine' q_gname ?eg ?_); (case eg => walk_at "set"))
  | ((with_reducible refine' n_set ?eg ?_); (case eg => walk_at "set"))
  | ((with_reducible refine' n_set2 ?eg ?_); (case eg => walk_at "set"))
  | ((with_reducible refine' n_set3 ?eg ?_); (case eg => walk_at "set"))
  | with_reducible refine q_two ?_
  | with_reducible refine q_three ?_
  | with_reducible refine q_vv ?_
  | with_reducible refine q_isS ?_
  | with_reducible refine q_isL ?_
  | with_reducible refine q_twoV ?_
  | with_reducible refine q_threeV ?_
  | with_reducible refine q_bl ?_
  | with_reducible refine q_oint ?_
  | ((with_reducible refine' q_gtup ?el ?_); (case el => exact rfl))
  | with_reducible refine q_gcons ?_
  | with_reducible refine q_gnil ?_
  | with_reducible refine i_t ?_
  | with_reducible refine i_f ?_
  | with_reducible refine i_nt ?_
  | with_reducible refine i_nf ?_
  | ((with_reducible refine' n_t ?en ?_); (case en => exact rfl))
  | ((with_reducible refine' n_f ?en ?_); (case en => exact rfl))
  | ((with_reducible refine' nn_t ?en ?_); (case en => exact rfl))
  | ((with_reducible refine' nn_f ?en ?_); (case en => exact rfl))
  | with_reducible refine And.intro (by walk_at "sz") ?_)
local macro_rules | `(tactic| walk_at "d") => `(tactic| first
  | walk_at "v"
  | walk_at "st"
  | walk_at "sm"
  | walk_at "cl"
  | walk_at "at")
local macro_rules | `(tactic| walk_at "dd") => `(tactic| repeat walk_at "d")
local macro_rules | `(tactic| walk_at "tx") => `(tactic| simp only [l_dash, l_dot, l_nil, l_space, l_figs, l_signs])

variable {P : Program} {w : World} {K : PySem.W.Frag} {mg : Str → Option Value} {base : Heap} {S : Sto} {Ex : XS} {Q : QO}

theorem plan_row {rs : List (List Nat)} (h : Plan rs) {m k : Nat} (hm : m < rs.length) (hk : k ≤ m) : L2.atI (rs.map tx) (m : Int) = some (tx (rs.getD m [])) ∧ (rs.getD m []).length ≤ 21 ∧ L2.atI (rs.getD m []) (k : Int) = some (sgn rs m k) := by
  have hl := h.ok.len m hm
  have := h.ok.most
  refine ⟨L2.atI_nat (by rw [List.getElem?_map, List.getD_eq_getElem?_getD, List.getElem?_eq_getElem hm] <;> rfl), by omega, atI_getD 0 (by omega)⟩
theorem ok_ways_of (T : Tx K mg) {rs : List (List Nat)} (h : Plan rs) (q : Q (.v (.lst ((List.range rs.length).map (wayD rs)))) S) : sFun (bs P w K mg base) 1 (.ref (He.ga K "ways_of")) [] [.tup (rs.map tx)] [] S Ex Q := by
  refine' call_d (B := bs P w K mg base) 0 (Classical.choose_spec T.d_ways_of) sc_ways_of rfl (bm_all (ps := ["rows"]) (Classical.choose_spec T.d_ways_of) (fun _ _ _ _ _ _ us hl => match us, hl with | [_], _ => rfl)) (dss_cons (dstF 1 (df_lst (da_cons (de_lstV (da_cons de_int da_nil)) da_nil))) (dss_cons (ds_for rfl rfl (di_range2 rfl T.f_range (da_cons de_int (da_cons (de_callB (id := "len") rfl T.f_len (by decide +kernel) (da_cons (dv 0) da_nil)) da_nil))) (dgn 2) (dss_cons (ds_parV (i := 3) (j := 4) rfl rfl rfl (by decide) rfl rfl (dvs_cons (dv_de (de_ix (dv 0) (de_bin (dv 2) de_int) (fun _ _ => rfl))) (dvs_cons (dv_df (df_lc (own := [("found", 5)]) rfl (by decide) (di_range1 rfl T.f_range (da_cons (de_bin (dv 2) de_int) da_nil)) (blkOk_by (N := ["rows", "table", "looked", "before", "counts", "found", "many"]) (sc := defScope s_ways_of) (by decide +kernel)) (dgn 5) dts_nil de_int)) dvs_nil)) (fun env h => by cases env; cases h; rfl)) (dss_cons (ds_for rfl rfl (di_range1 rfl T.f_range (da_cons (dv 2) da_nil)) (dgn 5) (dss_one (ds_if (dt_cmp (de_ix (dv 3) (dv 5) (fun _ _ => rfl)) de_str) (dss_cons (dst 6 (de_ix (de_ix (dv 1) (de_bin (dv 2) de_int) (fun _ _ => rfl)) (dv 5) (fun _ _ => rfl))) (dss_cons (ds_setI (i := 4) rfl (.inl rfl) (dv 5) (de_bin (de_ix (dv 4) (dv 5) (fun _ _ => rfl)) (dv 6))) (dss_one (ds_setI (i := 4) rfl (.inl rfl) (de_bin (dv 5) de_int) (de_bin (de_ix (dv 4) (de_bin (dv 5) de_int) (fun _ _ => rfl)) (dv 6)))))) dss_nil))) (dss_frz 4 (dss_one (ds_app (i := 1) rfl (.inl rfl) (dv 4))))))) (dss_frz 1 (dss_one (ds_ret (dv 1)))))) ⟨rfl, rfl⟩ ?st ?_
  case st => walk_at "start"
  have most := h.ok.most
  have two := h.ok.two
  simp only [l_dash]
  walk_at "dd"
  rw [List.length_map]
  walk_at "dd"
  refine loop_inv (fun i ρ S' => S' = S ∧ 1 + i ≤ rs.length ∧ ∃ x2 x3 x4 x5 x6 : Sl, ρ = [.sh (.tup (rs.map tx)), .ol ((List.range (1 + i)).map (wayD rs)), x2, x3, x4, x5, x6]) ⟨rfl, by omega, _, _, _, _, _, rfl⟩ ?_ ?_
  · rintro i x ρ S' Nx hx ⟨rfl, hi, x2, x3, x4, x5, x6, rfl⟩ hN
    obtain ⟨hi2, rfl⟩ := rngD_at hx
    have hi2 : i + 1 < rs.length := by omega
    have r0 := plan_row h (m := i) (k := 0) (by omega) (by omega)
    walk_at "dd"
    rw [show (1 + (i : Int) - 1) = (i : Int) by omega]
    refine s_ixT r0.1 ?_
    walk_at "dd"
    refine lc_pure (fun _ => true) (fun _ => .int 0) (by rw [rngD_len]; omega) (fun z hz X Y k1 k3 => ?_) ?_
    · replace k1 := k1 rfl
      walk_at "dd"
      exact k1
    have e0 : ((rngD 0 (1 + (i : Int) + 1).toNat).filter fun _ => true).map (fun _ => D.int 0) = (List.range (i + 2)).map fun k => D.int (cnt rs i 0 k : Nat) := by
      rw [List.filter_eq_self.mpr fun _ _ => rfl, rngD, List.map_map, show (1 + (i : Int) + 1).toNat = i + 2 by omega]
      refine List.map_congr_left fun k _ => ?_
      rw [cnt_zero] <;> rfl
    rw [e0]
    clear e0
    walk_at "dd"
    refine loop_inv (fun j ρ S2 => S2 = S' ∧ j ≤ i + 1 ∧ ∃ x5 x6 : Sl, ρ = [.sh (.tup (rs.map tx)), .ol ((List.range (1 + i)).map (wayD rs)), .sh (.int (1 + (i : Int))), .sh (tx (rs.getD i [])), .ol ((List.range (i + 2)).map fun k => .int (cnt rs i j k : Nat)), x5, x6]) ⟨rfl, Nat.zero_le _, _, _, rfl⟩ ?_ ?_
    · rintro j x ρ S2 Nx2 hx ⟨rfl, hj, x5, x6, rfl⟩ hN2
      obtain ⟨hj2, rfl⟩ := rngD_at hx
      have hj2 : j ≤ i := by omega
      rw [Int.zero_add]
      obtain ⟨_, r2, r3⟩ := plan_row h (m := i) (k := j) (by omega) hj2
      have a1 : L2.atI ((List.range (1 + i)).map (wayD rs)) (i : Int) = some (wayD rs i) := L2.atI_nat (by rw [List.getElem?_map, List.getElem?_range (by omega)] <;> rfl)
      have a2 : L2.atI ((List.range (i + 1)).map fun k => D.int (way rs i k : Nat)) (j : Int) = some (.int (way rs i j : Nat)) := L2.atI_nat (by rw [List.getElem?_map, List.getElem?_range (by omega)] <;> rfl)
      have a3 : L2.atI ((List.range (i + 2)).map fun k => D.int (cnt rs i j k : Nat)) (j : Int) = some (.int (cnt rs i j j : Nat)) := L2.atI_nat (by rw [List.getElem?_map, List.getElem?_range (by omega)] <;> rfl)
      walk_at "dd"
      refine s_ixTx (by omega) r3 ?_
      walk_at "dd"
      refine i_two (fun c2 => ?_) fun c2 => ?_
      · have c3 : sgn rs i j = 45 := (List.cons.inj (S_inj c2)).1
        walk_at "dd"
        rw [show (1 + (i : Int) - 1) = (i : Int) by omega]
        refine s_ixL ls_b a1 ?_
        walk_at "dd"
        refine (show sIx _ _ (.v (.lst ((List.range (i + 1)).map fun k => D.int (way rs i k : Nat)))) (.v (.int j)) _ _ _ from ?_)
        refine s_ixL ls_v a2 ?_
        walk_at "dd"
        have ix : ∀ {f : Nat → Nat} {u : Nat}, u < i + 2 → L2.ixN ((List.range (i + 2)).map fun k => D.int (f k : Nat)).length (u : Int) = some u := fun {f u} hu => by
          unfold L2.ixN
          rw [if_pos (by omega), if_pos (by rw [List.length_map, List.length_range]; omega)] <;> exact rfl
        refine q_setI rfl ?_
        walk_at "dd"
        refine s_ixL ls_b a3 ?_
        walk_at "dd"
        refine ⟨j, j, rfl, ix (by omega), ?_⟩
        rw [← Int.natCast_add, set_range (by omega)]
        have a4 : L2.atI ((List.range (i + 2)).map fun k => D.int ((if k = j then cnt rs i j j + way rs i j else cnt rs i j k) : Nat)) (((j + 1 : Nat)) : Int) = some (.int (cnt rs i j (j + 1) : Nat)) := L2.atI_nat (by
          rw [List.getElem?_map, List.getElem?_range (by omega)]
          show some (D.int ((if j + 1 = j then cnt rs i j j + way rs i j else cnt rs i j (j + 1)) : Nat)) = _
          rw [if_neg (by omega)])
        refine n_set (ρ' := [.sh (.tup (rs.map tx)), .ol ((List.range (1 + i)).map (wayD rs)), .sh (.int (1 + (i : Int))), .sh (tx (rs.getD i [])), .ol ((List.range (i + 2)).map fun k => .int ((if k = j then cnt rs i j j + way rs i j else cnt rs i j k) : Nat)), .sh (.int j), .sh (.int (way rs i j : Nat))]) rfl ?_
        walk_at "dd"
        refine q_setI rfl ?_
        walk_at "dd"
        rw [show (j : Int) + 1 = ((j + 1 : Nat) : Int) by omega]
        refine s_ixL ls_b a4 ?_
        walk_at "dd"
        rw [show (j : Int) + 1 = ((j + 1 : Nat) : Int) by omega]
        refine ⟨((j + 1 : Nat) : Int), j + 1, rfl, ix (by omega), ?_⟩
        rw [← Int.natCast_add, set_range (by omega)]
        refine n_set (ρ' := [.sh (.tup (rs.map tx)), .ol ((List.range (1 + i)).map (wayD rs)), .sh (.int (1 + (i : Int))), .sh (tx (rs.getD i [])), .ol ((List.range (i + 2)).map fun k => .int (cnt rs i (j + 1) k : Nat)), .sh (.int j), .sh (.int (way rs i j : Nat))]) (by
          have e : ((List.range (i + 2)).map fun k => D.int ((if k = j + 1 then cnt rs i j (j + 1) + way rs i j else if k = j then cnt rs i j j + way rs i j else cnt rs i j k) : Nat)) = (List.range (i + 2)).map fun k => D.int (cnt rs i (j + 1) k : Nat) := List.map_congr_left fun k _ => by rw [cnt_step hj2 c3]
          rw [e] <;> rfl) ?_
        exact hN2 _ _ ⟨rfl, by omega, _, _, rfl⟩
      · have c3 : sgn rs i j ≠ 45 := fun z => c2 (by rw [z])
        walk_at "dd"
        exact hN2 _ _ ⟨rfl, by omega, _, _, by simp only [cnt_skip c3]; exact rfl⟩
    · rintro ρ S2 ⟨rfl, _, x5, x6, rfl⟩
      rw [rngD_len, show (1 + (i : Int)).toNat = i + 1 by omega]
      have e1 : ((List.range (i + 2)).map fun k => D.int (cnt rs i (i + 1) k : Nat)) = (List.range (i + 1 + 1)).map fun k => D.int (way rs (i + 1) k : Nat) := List.map_congr_left fun k hk => by
        rw [cnt_all (by have := List.mem_range.mp hk; omega)]
      rw [e1]
      have hz : ((List.range (1 + i)).map (wayD rs)).length < sizeLine := by
        rw [List.length_map, List.length_range, sizeLine_eq]
        omega
      walk_at "dd"
      have er : (List.range (1 + (i + 1))).map (wayD rs) = (List.range (1 + i)).map (wayD rs) ++ [.lst ((List.range (i + 1 + 1)).map fun k => D.int (way rs (i + 1) k : Nat))] := by
        rw [show 1 + (i + 1) = 1 + i + 1 by omega, List.range_succ, List.map_append, List.map_singleton, show wayD rs (1 + i) = wayD rs (i + 1) by rw [Nat.add_comm]] <;> rfl
      exact hN _ _ ⟨rfl, by omega, _, _, _, _, _, by rw [er] <;> exact rfl⟩
  · rintro ρ S' ⟨rfl, _, x2, x3, x4, x5, x6, rfl⟩
    rw [rngD_len, show 1 + ((rs.length : Int) - 1).toNat = rs.length by omega]
    walk_at "dd"
    exact q
theorem isdig {c : Nat} (h : isS c = true ∨ c = 46) : Txt.isdigit (SX.S [c]) = isD c := by
  have : c = 45 ∨ c = 46 ∨ c = 48 ∨ c = 49 ∨ c = 50 ∨ c = 51 ∨ c = 52 ∨ c = 53 ∨ c = 54 ∨ c = 55 := by
    rcases h with z | z
    · unfold isS at z
      simp at z
      omega
    · omega
  rcases this with z | z | z | z | z | z | z | z | z | z <;> rw [z] <;> decide +kernel
theorem stops_row {rs : List (List Nat)} (i : Nat) : (List.range (i + 1)).flatMap (fun m => (List.range (m + 1)).filterMap (stop1 rs m)) = ((List.range i).flatMap fun m => (List.range (m + 1)).filterMap (stop1 rs m)) ++ (List.range (i + 1)).filterMap (stop1 rs i) := by
  rw [List.range_succ, List.flatMap_append, List.flatMap_cons, List.flatMap_nil, List.append_nil, ← List.range_succ]
theorem ok_stops_of (T : Tx K mg) {rs : List (List Nat)} (h : Plan rs) (q : Q (.v (.lst ((stops rs).map stD))) S) : sFun (bs P w K mg base) 2 (.ref (He.ga K "stops_of")) [] [.tup (rs.map tx)] [] S Ex Q := by
  refine' call_d (B := bs P w K mg base) 1 (Classical.choose_spec T.d_stops_of) sc_stops_of rfl (bm_all (ps := ["rows"]) (Classical.choose_spec T.d_stops_of) (fun _ _ _ _ _ _ us hl => match us, hl with | [_], _ => rfl)) (dss_cons (ds_parV (i := 1) (j := 2) rfl rfl rfl (by decide) rfl rfl (dvs_cons (dv_de (de_call rfl rfl ⟨T.g_ways_of, (Classical.choose_spec T.d_ways_of).kp⟩ (da_cons (dv 0) da_nil))) (dvs_cons (dv_df (df_lst da_nil)) dvs_nil)) (fun env h => by cases env; cases h; rfl)) (dss_cons (ds_for rfl rfl (di_range1 rfl T.f_range (da_cons (de_callB (id := "len") rfl T.f_len (by decide +kernel) (da_cons (dv 0) da_nil)) da_nil)) (dgn 3) (dss_one (ds_for rfl rfl (di_range1 rfl T.f_range (da_cons (de_bin (dv 3) de_int) da_nil)) (dgn 4) (dss_cons (dst 5 (de_ix (de_ix (dv 0) (dv 3) (fun _ _ => rfl)) (dv 4) (fun _ _ => rfl))) (dss_one (ds_if (dt_val (de_bm0 PySem.F.plainAttrs_str PySem.F.slot_str_isdigit PySem.F.type_str_isdigit (dv 5))) (dss_one (ds_app (i := 2) rfl (.inl rfl) (de_tup (da_cons (dv 3) (da_cons (dv 4) (da_cons (de_callT (T := "int") rfl T.f_int (by decide +kernel) (da_cons (dv 5) da_nil)) (da_cons (de_ix (de_ix (dv 1) (dv 3) (fun _ _ => rfl)) (dv 4) (fun _ _ => rfl)) da_nil))))))) dss_nil)))))) (dss_frz 2 (dss_one (ds_ret (dv 2)))))) ⟨rfl, rfl⟩ ?st ?_
  case st => walk_at "start"
  have most := h.ok.most
  have two := h.ok.two
  walk_at "dd"
  refine (ok_ways_of T h ?_).mono (Nat.le_of_ble_eq_true rfl)
  walk_at "dd"
  rw [List.length_map]
  walk_at "dd"
  have fml : ∀ (j m : Nat), ((List.range j).filterMap (stop1 rs m)).length ≤ j := fun j m => by
    have := List.length_filterMap_le (stop1 rs m) (List.range j)
    rwa [List.length_range] at this
  have stl : ∀ i, i ≤ 21 → ((List.range i).flatMap fun m => (List.range (m + 1)).filterMap (stop1 rs m)).length ≤ 22 * i := fun i => by
    induction i with
    | zero => intro _; exact Nat.zero_le _
    | succ i ih =>
      intro hi
      have := ih (by omega)
      have := fml (i + 1) i
      rw [stops_row, List.length_append]
      omega
  refine loop_inv (fun i ρ S' => S' = S ∧ i ≤ rs.length ∧ ∃ x3 x4 x5 : Sl, ρ = [.sh (.tup (rs.map tx)), .sh (.lst ((List.range rs.length).map (wayD rs))), .ol (((List.range i).flatMap fun m => (List.range (m + 1)).filterMap (stop1 rs m)).map stD), x3, x4, x5]) ⟨rfl, Nat.zero_le _, _, _, _, rfl⟩ ?_ ?_
  · rintro i x ρ S' Nx hx ⟨rfl, hi, x3, x4, x5, rfl⟩ hN
    obtain ⟨hi2, rfl⟩ := rngD_at hx
    have hi2 : i < rs.length := by omega
    rw [Int.zero_add]
    have sl := stl i (by omega)
    walk_at "dd"
    refine loop_inv (fun j ρ S2 => S2 = S' ∧ j ≤ i + 1 ∧ ∃ x4 x5 : Sl, ρ = [.sh (.tup (rs.map tx)), .sh (.lst ((List.range rs.length).map (wayD rs))), .ol ((((List.range i).flatMap fun m => (List.range (m + 1)).filterMap (stop1 rs m)) ++ (List.range j).filterMap (stop1 rs i)).map stD), .sh (.int i), x4, x5]) ⟨rfl, Nat.zero_le _, _, _, by rw [List.range_zero, List.filterMap_nil, List.append_nil] <;> exact rfl⟩ ?_ ?_
    · rintro j x ρ S2 Nx2 hx ⟨rfl, hj, x4, x5, rfl⟩ hN2
      obtain ⟨hj2, rfl⟩ := rngD_at hx
      have hj2 : j ≤ i := by omega
      rw [Int.zero_add]
      obtain ⟨r1, r2, r3⟩ := plan_row h (m := i) (k := j) hi2 hj2
      have kd := (kind h.ok hi2 hj2).1
      have a1 : L2.atI ((List.range rs.length).map (wayD rs)) (i : Int) = some (wayD rs i) := L2.atI_nat (by rw [List.getElem?_map, List.getElem?_range (by omega)] <;> rfl)
      have a2 : L2.atI ((List.range (i + 1)).map fun k => D.int (way rs i k : Nat)) (j : Int) = some (.int (way rs i j : Nat)) := L2.atI_nat (by rw [List.getElem?_map, List.getElem?_range (by omega)] <;> rfl)
      have fl := fml j i
      have hz : ((((List.range i).flatMap fun m => (List.range (m + 1)).filterMap (stop1 rs m)) ++ (List.range j).filterMap (stop1 rs i)).map stD).length < sizeLine := by
        rw [List.length_map, List.length_append, sizeLine_eq]
        omega
      have nxt : (List.range (j + 1)).filterMap (stop1 rs i) = (List.range j).filterMap (stop1 rs i) ++ (stop1 rs i j).toList := by
        rw [List.range_succ, List.filterMap_append, List.filterMap_cons, List.filterMap_nil]
        cases stop1 rs i j <;> rfl
      walk_at "dd"
      refine s_ixT r1 ?_
      walk_at "dd"
      refine s_ixTx (by omega) r3 ?_
      walk_at "dd"
      refine m_isdigit (isdig kd) ?_
      walk_at "dd"
      cases hd : isD (sgn rs i j) with
      | false =>
        have e0 : stop1 rs i j = none := by
          unfold stop1
          rw [hd] <;> rfl
        rw [e0, show (none : Option Stp).toList = [] from rfl, List.append_nil] at nxt
        rw [if_neg Bool.false_ne_true]
        walk_at "dd"
        exact hN2 _ _ ⟨rfl, by omega, _, _, by rw [nxt] <;> exact rfl⟩
      | true =>
        have g : 48 ≤ sgn rs i j ∧ sgn rs i j ≤ 57 := by
          unfold isD at hd
          rw [Bool.and_eq_true, decide_eq_true_iff, decide_eq_true_iff] at hd
          exact hd
        obtain ⟨c, ec⟩ : ∃ c, sgn rs i j = 48 + c := ⟨sgn rs i j - 48, by omega⟩
        have e0 : stop1 rs i j = some ⟨i, j, c, way rs i j⟩ := by
          unfold stop1
          rw [hd, if_pos rfl, ec, Nat.add_sub_cancel_left]
        rw [e0, show (some (⟨i, j, c, way rs i j⟩ : Stp)).toList = [⟨i, j, c, way rs i j⟩] from rfl] at nxt
        rw [if_pos rfl, ec]
        walk_at "dd"
        refine c_intF (by omega) ?_
        walk_at "dd"
        refine s_ixL ls_v a1 ?_
        walk_at "dd"
        refine (show sIx _ _ (.v (.lst ((List.range (i + 1)).map fun k => D.int (way rs i k : Nat)))) (.v (.int j)) _ _ _ from ?_)
        refine s_ixL ls_v a2 ?_
        walk_at "dd"
        have er : ∀ (F G : List Stp) (x : Stp), (F ++ (G ++ [x])).map stD = (F ++ G).map stD ++ [stD x] := fun F G x => by
          rw [← List.append_assoc, List.map_append (l₁ := F ++ G)] <;> rfl
        exact hN2 _ _ ⟨rfl, by omega, _, _, by rw [nxt, er] <;> exact rfl⟩
    · rintro ρ S2 ⟨rfl, _, x4, x5, rfl⟩
      rw [rngD_len, show ((i : Int) + 1).toNat = i + 1 by omega, ← stops_row]
      walk_at "dd"
      exact hN _ _ ⟨rfl, hi2, _, _, _, rfl⟩
  · rintro ρ S' ⟨rfl, _, x3, x4, x5, rfl⟩
    rw [rngD_len, Int.toNat_natCast]
    walk_at "dd"
    exact q
end Toy

set_option Elab.async false
set_option linter.all false
set_option maxRecDepth 100000
set_option maxHeartbeats 8000000
namespace Toy
open PySem PySem.Spec PyProof.Rows L2 My Dt SX Pln
local macro_rules | `(tactic| walk_at "rg") => `(tactic| first
  | omega
  | ((refine And.intro ?_ (And.intro ?_ (And.intro ?_ ?_))) <;> omega))
local macro_rules | `(tactic| walk_at "ls") => `(tactic| first
  | with_reducible exact ls_v
  | with_reducible exact ls_b
  | ((with_reducible refine' ls_p ?hlp); (case hlp => with_reducible assumption)))
local macro_rules | `(tactic| walk_at "start") => `(tactic| ((simp only [startM, startS, List.map_cons, List.map_nil, List.length_cons, List.length_nil, List.cons_append, List.nil_append, Nat.reduceAdd, Nat.reduceSub, List.replicate_succ, List.replicate_zero]); exact rfl))
local macro_rules | `(tactic| walk_at "set") => `(tactic| first
  | ((dsimp only [Int.reduceToNat, List.set_cons_zero, List.set_cons_succ, VO.sl]); done)
  | ((dsimp only [Int.reduceToNat, List.set_cons_zero, List.set_cons_succ, VO.sl]); exact rfl)
  | exact rfl)
local macro_rules | `(tactic| walk_at "sz") => `(tactic| first
  | exact sz_of (Nat.le_of_ble_eq_true rfl)
  | (apply sz_of; simp only [List.length_cons, List.length_nil, List.length_append, List.length_map]; omega))
local macro_rules | `(tactic| walk_at "side") => `(tactic| first
  | with_reducible assumption
  | omega
  | exact ml (by omega) (by omega)
  | exact mr (by omega) (by omega)
  | exact dv (by omega) (by omega)
  | exact Bd.mulOk (by with_reducible assumption) (by with_reducible assumption) (by decide) (by decide) (by decide)
  | exact Bd.div (by with_reducible assumption) (by omega) (by decide) (by decide)
  | (show (0 : Int) < _; omega)
  | exact ⟨by decide, by decide, by decide⟩
  | decide
  | exact rfl)
local macro_rules | `(tactic| walk_at "st") => `(tactic| first
  | with_reducible refine q_seq ?_
  | with_reducible refine q_end ?_
  | with_reducible refine q_nil ?_
  | with_reducible refine q_asg ?_
  | with_reducible refine q_ret ?_
  | with_reducible refine q_if ?_
  | with_reducible refine q_expr ?_
  | with_reducible refine q_retN ?_
  | with_reducible refine q_sub ?_
  | with_reducible refine q_for ?_
  | with_reducible refine q_par ?_
  | with_reducible refine q_par3 ?_
  | with_reducible refine q_parV ?_
  | with_reducible refine q_parV3 ?_
  | with_reducible refine q_asgF ?_
  | with_reducible refine q_asgC ?_
  | ((with_reducible refine' q_frz ?ef ?_); (case ef => exact rfl))
  | ((with_reducible refine' q_app ?ea ?eb ?_); (case ea => exact rfl); (case eb => walk_at "slen"))
  | with_reducible refine q_brk ?_
  | with_reducible refine q_cnt ?_
  | with_reducible refine q_fldS ?_
  | with_reducible refine q_fldP ?_
  | with_reducible refine q_raise ?_
  | with_reducible refine q_try ?_)
local macro_rules | `(tactic| walk_at "slen") => `(tactic| first
  | with_reducible assumption
  | ((rw [sizeLine_eq]); (simp only [List.length_cons, List.length_nil, List.length_append, List.length_map]); omega))
local macro_rules | `(tactic| walk_at "sm") => `(tactic| first
  | with_reducible refine s_add ?_
  | with_reducible refine s_sub ?_
  | ((with_reducible refine' s_mul ?hm ?_); (case hm => walk_at "side"))
  | ((with_reducible refine' s_fdiv ?hm ?_); (case hm => walk_at "side"))
  | ((with_reducible refine' s_mod ?hm ?_); (case hm => walk_at "side"))
  | with_reducible refine s_neg ?_
  | ((with_reducible refine' s_pow ?hm ?_); (case hm => walk_at "side"))
  | ((with_reducible refine' s_ixL ?hl ?he ?_); (case hl => walk_at "ls"); (case he => exact rfl))
  | ((with_reducible refine' s_ixT ?he ?_); (case he => exact rfl))
  | ((with_reducible refine' set_L2 ?ha ?hb ?hc ?_); (case ha => with_reducible assumption); (case hb => exact rfl); (case hc => walk_at "set"))
  | with_reducible refine s_addB ?_
  | with_reducible refine s_lt ?_
  | with_reducible refine s_le ?_
  | with_reducible refine s_gt ?_
  | with_reducible refine s_ge ?_
  | with_reducible refine s_eq ?_
  | with_reducible refine s_ne ?_
  | with_reducible refine s_eqS ?_
  | with_reducible refine s_neS ?_
  | with_reducible refine s_isN ?_
  | with_reducible refine s_isNotN ?_
  | with_reducible refine t_bl ?_)
local macro_rules | `(tactic| walk_at "cl") => `(tactic| first
  | with_reducible refine c_int ?_
  | with_reducible refine c_intB ?_
  | with_reducible refine c_abs ?_
  | ((with_reducible refine' c_max ?hm ?_); (case hm => exact rfl))
  | ((with_reducible refine' c_min ?hm ?_); (case hm => exact rfl))
  | ((with_reducible refine' c_divmod ?hm ?_); (case hm => walk_at "side"))
  | ((with_reducible refine' c_len ?hm ?_); (case hm => walk_at "sq"))
  | ((with_reducible refine' c_list ?hm ?_); (case hm => walk_at "sq"))
  | ((with_reducible refine' c_tuple ?hm ?_); (case hm => walk_at "sq")))
local macro_rules | `(tactic| walk_at "sq") => `(tactic| first
  | exact sqL
  | exact sqT
  | exact sqB
  | exact sqP (by with_reducible assumption))
local macro_rules | `(tactic| walk_at "v") => `(tactic| first
  | ((with_reducible refine' v_sh ?ev ?_); (case ev => exact rfl))
  | ((with_reducible refine' v_ol ?ev ?_); (case ev => exact rfl))
  | ((with_reducible refine' v_slf ?ev ?_); (case ev => exact rfl))
  | with_reducible refine q_val ?_
  | ((with_reducible refine' q_walk ?ew ?_); (case ew => exact rfl))
  | ((with_reducible refine' q_rng1 ?ej ?ek ?_); (case ej => walk_at "rg"); (case ek => walk_at "rg"))
  | ((with_reducible refine' q_rng2 ?ej ?_); (case ej => walk_at "rg"))
  | with_reducible refine q_rngL ?_
  | with_reducible refine q_solc ?_
  | with_reducible refine q_sol0 ?_
  | ((with_reducible refine' q_gname ?eg ?_); (case eg => walk_at "set"))
  | ((with_reducible refine' n_set ?eg ?_); (case eg => walk_at "set"))
  | ((with_reducible refine' n_set2 ?eg ?_); (case eg => walk_at "set"))
  | ((with_reducible refine' n_set3 ?eg ?_); (case eg => walk_at "set"))
  | with_reducible refine q_two ?_
  | with_reducible refine q_three ?_
  | with_reducible refine q_vv ?_
  | with_reducible refine q_isS ?_
  | with_reducible refine q_isL ?_
  | with_reducible refine q_twoV ?_
  | with_reducible refine q_threeV ?_
  | with_reducible refine q_bl ?_
  | with_reducible refine q_oint ?_
  | ((with_reducible refine' q_gtup ?el ?_); (case el => exact rfl))
  | with_reducible refine q_gcons ?_
  | with_reducible refine q_gnil ?_
  | with_reducible refine i_t ?_
  | with_reducible refine i_f ?_
  | with_reducible refine i_nt ?_
  | with_reducible refine i_nf ?_
  | ((with_reducible refine' n_t ?en ?_); (case en => exact rfl))
  | ((with_reducible refine' n_f ?en ?_); (case en => exact rfl))
  | ((with_reducible refine' nn_t ?en ?_); (case en => exact rfl))
  | ((with_reducible refine' nn_f ?en ?_); (case en => exact rfl))
  | with_reducible refine And.intro (by walk_at "sz") ?_)
local macro_rules | `(tactic| walk_at "d") => `(tactic| first
  | walk_at "v"
  | walk_at "st"
  | walk_at "sm"
  | walk_at "cl"
  | walk_at "at")
local macro_rules | `(tactic| walk_at "dd") => `(tactic| repeat walk_at "d")
local macro_rules | `(tactic| walk_at "tx") => `(tactic| simp only [l_dash, l_dot, l_nil, l_space, l_figs, l_signs])

variable {P : Program} {w : World} {K : PySem.W.Frag} {mg : Str → Option Value} {base : Heap} {S : Sto} {Ex : XS} {Q : QO}

theorem fall_zero {t : Int} (h0 : 0 ≤ t) : ∀ {n : Nat}, t < n → fall t n = 0
  | 0, h => absurd h (by omega)
  | n + 1, h => by
    show fall t n * (t - n) = 0
    by_cases c : t < n
    · rw [fall_zero h0 c, Int.zero_mul]
    · rw [show t - (n : Int) = 0 by omega, Int.mul_zero]
theorem fall_nn {t : Int} (h0 : 0 ≤ t) (n : Nat) : 0 ≤ fall t n := by
  by_cases c : t < n
  · rw [fall_zero h0 c]
    exact Int.le_refl _
  · exact Int.le_of_lt (fall_pos (by omega))
theorem drw_nn {L : Nat} {N M : Int} {s : Stp} (m0 : 0 ≤ M) (mN : M ≤ N) (hN : (s.m : Int) ≤ N) : 0 ≤ drw L N M s := by
  unfold drw
  exact Int.mul_nonneg (Int.mul_nonneg (Int.mul_nonneg (by omega) (fall_nn m0 _)) (fall_nn (by omega) _)) (fall_nn (by omega) _)
theorem lsum_nn {α : Type} {f : α → Int} : ∀ {xs : List α}, (∀ x ∈ xs, 0 ≤ f x) → 0 ≤ lsum xs f
  | [], _ => Int.le_refl _
  | x :: xs, h => by
    rw [lsum_cons]
    have := h x (.head _)
    have := lsum_nn (xs := xs) fun y hy => h y (.tail _ hy)
    omega
theorem stop_mem {rs : List (List Nat)} (h : Plan rs) {s : Stp} (hs : s ∈ stops rs) : StOk (rs.length - 1) s ∧ s.c < (cls rs).length := by
  have most := h.ok.most
  obtain ⟨m, hm, q⟩ := List.mem_flatMap.mp hs
  obtain ⟨k, hk, e⟩ := List.mem_filterMap.mp q
  have hm := List.mem_range.mp hm
  have hk := List.mem_range.mp hk
  unfold stop1 at e
  split at e
  · rename_i d
    have e := Option.some.inj e
    have g : 48 ≤ sgn rs m k ∧ sgn rs m k ≤ 57 := by
      unfold isD at d
      rw [Bool.and_eq_true, decide_eq_true_iff, decide_eq_true_iff] at d
      exact d
    subst e
    refine ⟨⟨by show k ≤ m; omega, by show m ≤ _; omega, ?_⟩, ?_⟩
    · show way rs m k ≤ 2 ^ 20
      exact Nat.le_trans way_le (Nat.pow_le_pow_right (by decide) (by omega))
    · show sgn rs m k - 48 < _
      have kd := (kind h.ok hm (show k ≤ m by omega)).1
      have s7 : sgn rs m k ≤ 55 := by
        rcases kd with z | z
        · unfold isS at z
          simp at z
          omega
        · omega
      have mem : sgn rs m k ∈ rs.flatten := by
        have l := h.ok.len m hm
        unfold sgn
        rw [List.getD_eq_getElem?_getD, List.getElem?_eq_getElem (by omega)]
        refine List.mem_flatten.mpr ⟨rs.getD m [], ?_, List.getElem_mem _⟩
        rw [List.getD_eq_getElem?_getD, List.getElem?_eq_getElem hm]
        exact List.getElem_mem _
      have hc := cls_of (rs := rs) (n := sgn rs m k - 48) (by omega) (by rw [show 48 + (sgn rs m k - 48) = sgn rs m k by omega]; exact mem)
      rw [h.ok.all_] at hc
      exact List.mem_range.mp hc
  · cases e
theorem stops_few {rs : List (List Nat)} (h : Plan rs) : (stops rs).length ≤ 500 := by
  have most := h.ok.most
  have fml : ∀ (j m : Nat), ((List.range j).filterMap (stop1 rs m)).length ≤ j := fun j m => by
    have := List.length_filterMap_le (stop1 rs m) (List.range j)
    rwa [List.length_range] at this
  have stl : ∀ i, i ≤ 21 → ((List.range i).flatMap fun m => (List.range (m + 1)).filterMap (stop1 rs m)).length ≤ 22 * i := fun i => by
    induction i with
    | zero => intro _; exact Nat.zero_le _
    | succ i ih =>
      intro hi
      have := ih (by omega)
      have := fml (i + 1) i
      rw [stops_row, List.length_append]
      omega
  have := stl rs.length most
  show ((List.range rs.length).flatMap fun m => (List.range (m + 1)).filterMap (stop1 rs m)).length ≤ 500
  omega
theorem ok_draws (T : Tx K mg) {rs : List (List Nat)} (h : Plan rs) {N : Int} {b : Nat} (bN : Bd b N) (hb : b ≤ 600) (n0 : (rs.length : Int) - 1 ≤ N) (n1 : N ≤ SIZ) (q : Q (.v (.int (fall N (rs.length - 1)))) S) : sFun (bs P w K mg base) 4 (.ref (He.ga K "draws")) [] [planD rs, .int N] [] S Ex Q := by
  refine' call_d (B := bs P w K mg base) 3 (Classical.choose_spec T.d_draws) sc_draws rfl (bm_all (ps := ["plan", "size"]) (Classical.choose_spec T.d_draws) (fun _ _ _ _ _ _ us hl => match us, hl with | [_, _], _ => rfl)) (dss_cons (ds_expr (de_call rfl rfl ⟨T.g_check_plan, (Classical.choose_spec T.d_check_plan).kp⟩ (da_cons (dv 0) da_nil))) (dss_cons (ds_expr (de_call rfl rfl ⟨T.g_check_size, (Classical.choose_spec T.d_check_size).kp⟩ (da_cons (dv 1) (da_cons (de_attr (dv 0)) da_nil)))) (dss_one (ds_ret (de_call rfl rfl ⟨T.g_product_down, (Classical.choose_spec T.d_product_down).kp⟩ (da_cons (dv 1) (da_cons (de_attr (dv 0)) da_nil))))))) ⟨rfl, rfl⟩ ?st ?_
  case st => walk_at "start"
  have most := h.ok.most
  have two := h.ok.two
  walk_at "dd"
  refine (ok_check_plan T ?_).mono (Nat.le_of_ble_eq_true rfl)
  walk_at "dd"
  refine sAttr_f isI_ins T.cl_Plan T.n_Plan_longest rfl ?_
  walk_at "dd"
  refine (ok_check_size T n0 n1 ?_).mono (Nat.le_of_ble_eq_true rfl)
  walk_at "dd"
  refine sAttr_f isI_ins T.cl_Plan T.n_Plan_longest rfl ?_
  walk_at "dd"
  rw [show (rs.length : Int) - 1 = ((rs.length - 1 : Nat) : Int) by omega]
  refine (ok_product_down T bN (by omega) (by omega) ?_).mono (Nat.le_of_ble_eq_true rfl)
  walk_at "dd"
  exact q
def cntD (rs : List (List Nat)) (N M : Int) (xs : List Stp) : List D := (List.range (cls rs).length).map fun c => .int (lsum xs fun s => if s.c = c then drw (rs.length - 1) N M s else 0)
theorem ok_class_counts (T : Tx K mg) {rs : List (List Nat)} (h : Plan rs) {N M : Int} {b : Nat} (bN : Bd b N) (bM : Bd b M) (hb : b ≤ 600) (n0 : (rs.length : Int) - 1 ≤ N) (n1 : N ≤ SIZ) (m0 : 0 ≤ M) (m1 : M ≤ N) (q : ∀ z, Q (.v (.tup (cntD rs N M (stops rs)))) (S ++ [z])) : sFun (bs P w K mg base) 5 (.ref (He.ga K "class_counts")) [] [planD rs, .int N, .int M] [] S Ex Q := by
  refine' call_d (B := bs P w K mg base) 4 (Classical.choose_spec T.d_class_counts) sc_class_counts rfl (bm_all (ps := ["plan", "size", "marked"]) (Classical.choose_spec T.d_class_counts) (fun _ _ _ _ _ _ us hl => match us, hl with | [_, _, _], _ => rfl)) (dss_cons (ds_expr (de_call rfl rfl ⟨T.g_check_plan, (Classical.choose_spec T.d_check_plan).kp⟩ (da_cons (dv 0) da_nil))) (dss_cons (ds_expr (de_call rfl rfl ⟨T.g_check_table, (Classical.choose_spec T.d_check_table).kp⟩ (da_cons (dv 0) (da_cons (dv 1) (da_cons (dv 2) da_nil))))) (dss_cons (ds_setLcP (i := 3) (own := [("number", 5)]) rfl (by decide) rfl rfl (fun _ h => sw_true (by rw [h]; rfl) (by rw [h]; rfl) rfl (by decide +kernel)) (di_range1 rfl T.f_range (da_cons (de_attr (dv 0)) da_nil)) (blkOk_by (N := ["plan", "size", "marked", "counts", "stop", "number"]) (sc := defScope s_class_counts) (by decide +kernel)) (dgn 5) dts_nil de_int) (dss_cons (ds_for rfl rfl (di_val (de_call rfl rfl ⟨T.g_stops_of, (Classical.choose_spec T.d_stops_of).kp⟩ (da_cons (de_attr (dv 0)) da_nil))) (dgn 4) (dss_one (ds_aug (dv 3) (de_ix (dv 4) de_int (fun _ _ => rfl)) (de_call rfl rfl ⟨T.g_stop_draws, (Classical.choose_spec T.d_stop_draws).kp⟩ (da_cons (dv 4) (da_cons (de_attr (dv 0)) (da_cons (dv 1) (da_cons (dv 2) da_nil)))))))) (dss_one (ds_ret (de_callT (T := "tuple") rfl T.f_tuple (by decide +kernel) (da_cons (dv 3) da_nil)))))))) ⟨rfl, rfl⟩ ?st ?_
  case st => walk_at "start"
  have most := h.ok.most
  have two := h.ok.two
  have c8 := cls_len rs
  have few := stops_few h
  walk_at "dd"
  refine (ok_check_plan T ?_).mono (Nat.le_of_ble_eq_true rfl)
  walk_at "dd"
  refine (ok_check_table T n0 n1 m0 m1 ?_).mono (Nat.le_of_ble_eq_true rfl)
  walk_at "dd"
  refine q_asgCP ?_
  walk_at "dd"
  refine sAttr_f isI_ins T.cl_Plan T.n_Plan_classes rfl ?_
  walk_at "dd"
  refine lc_pure (fun _ => true) (fun _ => .int 0) (by rw [rngD_len]; omega) (fun z hz X Y k1 k3 => ?_) ?_
  · replace k1 := k1 rfl
    walk_at "dd"
    exact k1
  have e0 : ((rngD 0 ((cls rs).length : Int).toNat).filter fun _ => true).map (fun _ => D.int 0) = cntD rs N M ((stops rs).take 0) := by
    unfold cntD
    rw [List.filter_eq_self.mpr fun _ _ => rfl, rngD, List.map_map, Int.toNat_natCast] <;> rfl
  rw [e0]
  clear e0
  walk_at "dd"
  refine sAttr_f isI_ins T.cl_Plan T.n_Plan_rows rfl ?_
  walk_at "dd"
  refine (ok_stops_of T h ?_).mono (Nat.le_of_ble_eq_true rfl)
  walk_at "dd"
  refine loop_inv (fun i ρ S' => S' = S ++ [.lst (cntD rs N M ((stops rs).take i))] ∧ i ≤ (stops rs).length ∧ ∃ x4 : Sl, ρ = [.sh (planD rs), .sh (.int N), .sh (.int M), .sh (.ptr S.length), x4, .un]) ⟨rfl, Nat.zero_le _, _, rfl⟩ ?_ ?_
  · rintro i x ρ S' Nx hx ⟨rfl, hi, x4, rfl⟩ hN
    rw [List.getElem?_map] at hx
    obtain ⟨s, hs, rfl⟩ := Option.map_eq_some_iff.mp hx
    have hlt := (List.getElem?_eq_some_iff.mp hs).1
    obtain ⟨so, sc⟩ := stop_mem h (List.mem_of_getElem? hs)
    have hat : (S ++ [Cell.lst (cntD rs N M ((stops rs).take i))])[S.length]? = some (.lst (cntD rs N M ((stops rs).take i))) := List.getElem?_concat_length
    have a2 : L2.atI [D.int s.m, .int s.k, .int s.c, .int s.w] (2 : Int) = some (.int s.c) := rfl
    have gt : L2.atI (cntD rs N M ((stops rs).take i)) (s.c : Int) = some (.int (lsum ((stops rs).take i) fun u => if u.c = s.c then drw (rs.length - 1) N M u else 0)) := L2.atI_nat (by
      unfold cntD
      rw [List.getElem?_map, List.getElem?_range sc] <;> rfl)
    have nxt : (cntD rs N M ((stops rs).take i)).set s.c (.int ((lsum ((stops rs).take i) fun u => if u.c = s.c then drw (rs.length - 1) N M u else 0) + drw (rs.length - 1) N M s)) = cntD rs N M ((stops rs).take (i + 1)) := by
      unfold cntD
      refine List.ext_getElem (by simp) fun k h1 h2 => ?_
      rw [List.getElem_set]
      simp only [List.getElem_map, List.getElem_range]
      rw [List.take_add_one, hs, show (some s : Option Stp).toList = [s] from rfl, lsum_app, lsum_cons, lsum_nil, Int.add_zero]
      by_cases c : s.c = k
      · rw [if_pos c, if_pos c, c]
      · rw [if_neg c, if_neg c, Int.add_zero]
    walk_at "dd"
    unfold dSubA
    dsimp only
    walk_at "dd"
    refine s_giL (ls_p hat) (by omega) gt ?_
    walk_at "dd"
    refine sAttr_f isI_ins T.cl_Plan T.n_Plan_longest rfl ?_
    walk_at "dd"
    rw [show (rs.length : Int) - 1 = ((rs.length - 1 : Nat) : Int) by omega]
    refine (ok_stop_draws T so (by omega) bN bM hb ?_).mono (Nat.le_of_ble_eq_true rfl)
    refine s_iadd ?_
    refine ⟨_, rfl, ?_⟩
    refine set_L hat (l := s.c) (by unfold L2.ixN cntD; rw [if_pos (by omega), if_pos (by rw [List.length_map, List.length_range]; omega)] <;> exact rfl) ?_
    rw [nxt, List.set_append_right _ _ (Nat.le_refl _), Nat.sub_self]
    exact hN _ _ ⟨rfl, hlt, _, rfl⟩
  · rintro ρ S' ⟨rfl, _, x4, rfl⟩
    rw [List.length_map, List.take_length]
    have hat : (S ++ [Cell.lst (cntD rs N M (stops rs))])[S.length]? = some (.lst (cntD rs N M (stops rs))) := List.getElem?_concat_length
    walk_at "dd"
    exact q _
theorem ok_stops_up_to (T : Tx K mg) {rs : List (List Nat)} (h : Plan rs) {n : Nat} (q : Q (.v (.lst (((stops rs).filter fun s => decide (s.c ≤ n)).map stD))) S) : sFun (bs P w K mg base) 3 (.ref (He.ga K "stops_up_to")) [] [planD rs, .int n] [] S Ex Q := by
  refine' call_d (B := bs P w K mg base) 2 (Classical.choose_spec T.d_stops_up_to) sc_stops_up_to rfl (bm_all (ps := ["plan", "number"]) (Classical.choose_spec T.d_stops_up_to) (fun _ _ _ _ _ _ us hl => match us, hl with | [_, _], _ => rfl)) (dss_one (ds_ret (DF.de (df_lc (own := [("stop", 2)]) rfl (by decide) (di_val (de_call rfl rfl ⟨T.g_stops_of, (Classical.choose_spec T.d_stops_of).kp⟩ (da_cons (de_attr (dv 0)) da_nil))) (blkOk_by (N := ["plan", "number", "stop"]) (sc := defScope s_stops_up_to) (by decide +kernel)) (dgn 2) (dts_one (dt_cmp (de_ix (dv 2) de_int (fun _ _ => rfl)) (dv 1))) (dv 2))))) ⟨rfl, rfl⟩ ?st ?_
  case st => walk_at "start"
  have few := stops_few h
  walk_at "dd"
  refine sAttr_f isI_ins T.cl_Plan T.n_Plan_rows rfl ?_
  walk_at "dd"
  refine (ok_stops_of T h ?_).mono (Nat.le_of_ble_eq_true rfl)
  walk_at "dd"
  refine lc_pure (fun d => match d with | .tup [_, _, .int c, _] => decide (c ≤ (n : Int)) | _ => false) id (by rw [List.length_map]; omega) (fun z hz X Y k1 k3 => ?_) ?_
  · obtain ⟨s, hs, rfl⟩ := List.mem_map.mp hz
    have a2 : L2.atI [D.int s.m, .int s.k, .int s.c, .int s.w] (2 : Int) = some (.int s.c) := rfl
    replace k1 : decide ((s.c : Int) ≤ n) = true → X (.v (stD s)) S := k1
    replace k3 : decide ((s.c : Int) ≤ n) = false → Y S := k3
    walk_at "dd"
    refine i_two (fun c1 => ?_) fun c1 => ?_
    · walk_at "dd"
      exact k1 (decide_eq_true c1)
    · exact k3 (decide_eq_false c1)
  have e1 : (((stops rs).map stD).filter fun d => match d with | .tup [_, _, .int c, _] => decide (c ≤ (n : Int)) | _ => false).map id = ((stops rs).filter fun s => decide (s.c ≤ n)).map stD := by
    rw [List.map_id, List.filter_map]
    refine congrArg _ (List.filter_congr fun s _ => ?_)
    show decide ((s.c : Int) ≤ n) = decide (s.c ≤ n)
    exact decide_eq_decide.mpr (by omega)
  rw [e1]
  walk_at "dd"
  exact q
theorem sum_lsum {α : Type} {f : α → Int} : ∀ {xs : List α}, (xs.map f).sum = lsum xs f
  | [] => rfl
  | x :: xs => by rw [List.map_cons, List.sum_cons, lsum_cons, sum_lsum (xs := xs)]
theorem ok_count_stops (T : Tx K mg) {xs : List Stp} {L b : Nat} {N M : Int} (ho : ∀ s ∈ xs, StOk L s) (hl : xs.length ≤ 500) (hL : L ≤ 20) (bN : Bd b N) (bM : Bd b M) (hb : b ≤ 600) (q : Q (.v (.int (lsum xs (drw L N M)))) S) : sFun (bs P w K mg base) 3 (.ref (He.ga K "count_stops")) [] [.lst (xs.map stD), .int L, .int N, .int M] [] S Ex Q := by
  refine' call_d (B := bs P w K mg base) 2 (Classical.choose_spec T.d_count_stops) sc_count_stops rfl (bm_all (ps := ["stops", "longest", "size", "marked"]) (Classical.choose_spec T.d_count_stops) (fun _ _ _ _ _ _ us hl => match us, hl with | [_, _, _, _], _ => rfl)) (dss_one (ds_ret (de_callB (id := "sum") rfl T.f_sum (by decide +kernel) (da_cons (DF.de (df_lc (own := [("stop", 4)]) rfl (by decide) (di_val (dv 0)) (blkOk_by (N := ["stops", "longest", "size", "marked", "stop"]) (sc := defScope s_count_stops) (by decide +kernel)) (dgn 4) dts_nil (de_call rfl rfl ⟨T.g_stop_draws, (Classical.choose_spec T.d_stop_draws).kp⟩ (da_cons (dv 4) (da_cons (dv 1) (da_cons (dv 2) (da_cons (dv 3) da_nil))))))) da_nil)))) ⟨rfl, rfl⟩ ?st ?_
  case st => walk_at "start"
  let f : D → D := fun d => match d with | .tup [.int m, .int k, .int c, .int w] => .int (drw L N M ⟨m.toNat, k.toNat, c.toNat, w.toNat⟩) | _ => .non
  have fe : ∀ s : Stp, f (stD s) = .int (drw L N M s) := fun s => by
    show D.int (drw L N M ⟨(s.m : Int).toNat, (s.k : Int).toNat, (s.c : Int).toNat, (s.w : Int).toNat⟩) = _
    rw [Int.toNat_natCast, Int.toNat_natCast, Int.toNat_natCast, Int.toNat_natCast]
  walk_at "dd"
  refine lc_pure (fun _ => true) f (by rw [List.length_map]; omega) (fun z hz X Y k1 k3 => ?_) ?_
  · obtain ⟨s, hs, rfl⟩ := List.mem_map.mp hz
    replace k1 := k1 rfl
    rw [fe] at k1
    walk_at "dd"
    refine (ok_stop_draws T (ho s hs) hL bN bM hb ?_).mono (Nat.le_of_ble_eq_true rfl)
    exact k1
  have e1 : ((xs.map stD).filter fun _ => true).map f = (xs.map (drw L N M)).map .int := by
    rw [List.filter_eq_self.mpr fun _ _ => rfl, List.map_map, List.map_map]
    exact List.map_congr_left fun s _ => fe s
  rw [e1]
  walk_at "dd"
  refine (show sCall _ _ (.builtin "sum") [] [.v (.lst ((xs.map (drw L N M)).map .int))] [] _ _ _ from ?_)
  refine c_sum rfl ls_v ?_
  rw [sum_lsum]
  walk_at "dd"
  exact q
theorem ok_up_to (T : Tx K mg) {rs : List (List Nat)} (h : Plan rs) {N M : Int} {n b : Nat} (hn : n < (cls rs).length) (bN : Bd b N) (bM : Bd b M) (hb : b ≤ 600) (n0 : (rs.length : Int) - 1 ≤ N) (n1 : N ≤ SIZ) (m0 : 0 ≤ M) (m1 : M ≤ N) (q : Q (.v (.int (lsum (stops rs) fun s => if s.c ≤ n then drw (rs.length - 1) N M s else 0))) S) : sFun (bs P w K mg base) 5 (.ref (He.ga K "up_to")) [] [planD rs, .int n, .int N, .int M] [] S Ex Q := by
  refine' call_d (B := bs P w K mg base) 4 (Classical.choose_spec T.d_up_to) sc_up_to rfl (bm_all (ps := ["plan", "number", "size", "marked"]) (Classical.choose_spec T.d_up_to) (fun _ _ _ _ _ _ us hl => match us, hl with | [_, _, _, _], _ => rfl)) (dss_cons (ds_expr (de_call rfl rfl ⟨T.g_check_plan, (Classical.choose_spec T.d_check_plan).kp⟩ (da_cons (dv 0) da_nil))) (dss_cons (ds_expr (de_call rfl rfl ⟨T.g_check_range, (Classical.choose_spec T.d_check_range).kp⟩ (da_cons (dv 1) (da_cons de_int (da_cons (de_bin (de_attr (dv 0)) de_int) da_nil))))) (dss_cons (ds_expr (de_call rfl rfl ⟨T.g_check_table, (Classical.choose_spec T.d_check_table).kp⟩ (da_cons (dv 0) (da_cons (dv 2) (da_cons (dv 3) da_nil))))) (dss_one (ds_ret (de_call rfl rfl ⟨T.g_count_stops, (Classical.choose_spec T.d_count_stops).kp⟩ (da_cons (de_call rfl rfl ⟨T.g_stops_up_to, (Classical.choose_spec T.d_stops_up_to).kp⟩ (da_cons (dv 0) (da_cons (dv 1) da_nil))) (da_cons (de_attr (dv 0)) (da_cons (dv 2) (da_cons (dv 3) da_nil)))))))))) ⟨rfl, rfl⟩ ?st ?_
  case st => walk_at "start"
  have most := h.ok.most
  have two := h.ok.two
  have few := stops_few h
  walk_at "dd"
  refine (ok_check_plan T ?_).mono (Nat.le_of_ble_eq_true rfl)
  walk_at "dd"
  refine sAttr_f isI_ins T.cl_Plan T.n_Plan_classes rfl ?_
  walk_at "dd"
  refine (ok_check_range T (by omega) (by omega) ?_).mono (Nat.le_of_ble_eq_true rfl)
  walk_at "dd"
  refine (ok_check_table T n0 n1 m0 m1 ?_).mono (Nat.le_of_ble_eq_true rfl)
  walk_at "dd"
  refine (ok_stops_up_to T h ?_).mono (Nat.le_of_ble_eq_true rfl)
  walk_at "dd"
  refine sAttr_f isI_ins T.cl_Plan T.n_Plan_longest rfl ?_
  walk_at "dd"
  rw [show (rs.length : Int) - 1 = ((rs.length - 1 : Nat) : Int) by omega]
  refine (ok_count_stops T (fun s hs => (stop_mem h (List.mem_filter.mp hs).1).1) (by have := List.length_filter_le (fun s : Stp => decide (s.c ≤ n)) (stops rs); omega) (by omega) bN bM hb ?_).mono (Nat.le_of_ble_eq_true rfl)
  rw [lsum_filter]
  have e : (lsum (stops rs) fun s => if decide (s.c ≤ n) = true then drw (rs.length - 1) N M s else 0) = lsum (stops rs) fun s => if s.c ≤ n then drw (rs.length - 1) N M s else 0 := lsum_congr fun s _ => by
    by_cases c : s.c ≤ n
    · rw [decide_eq_true c, if_pos rfl, if_pos c]
    · rw [decide_eq_false c, if_neg Bool.false_ne_true, if_neg c]
  rw [e]
  exact ⟨_, rfl, q⟩
end Toy

set_option Elab.async false
set_option linter.all false
set_option maxRecDepth 100000
set_option maxHeartbeats 8000000
namespace Toy
open PySem PySem.Spec PyProof.Rows L2 My Dt SX Pln
local macro_rules | `(tactic| walk_at "rg") => `(tactic| first
  | omega
  | ((refine And.intro ?_ (And.intro ?_ (And.intro ?_ ?_))) <;> omega))
local macro_rules | `(tactic| walk_at "ls") => `(tactic| first
  | with_reducible exact ls_v
  | with_reducible exact ls_b
  | ((with_reducible refine' ls_p ?hlp); (case hlp => with_reducible assumption)))
local macro_rules | `(tactic| walk_at "start") => `(tactic| ((simp only [startM, startS, List.map_cons, List.map_nil, List.length_cons, List.length_nil, List.cons_append, List.nil_append, Nat.reduceAdd, Nat.reduceSub, List.replicate_succ, List.replicate_zero]); exact rfl))
local macro_rules | `(tactic| walk_at "set") => `(tactic| first
  | ((dsimp only [Int.reduceToNat, List.set_cons_zero, List.set_cons_succ, VO.sl]); done)
  | ((dsimp only [Int.reduceToNat, List.set_cons_zero, List.set_cons_succ, VO.sl]); exact rfl)
  | exact rfl)
local macro_rules | `(tactic| walk_at "sz") => `(tactic| first
  | exact sz_of (Nat.le_of_ble_eq_true rfl)
  | (apply sz_of; simp only [List.length_cons, List.length_nil, List.length_append, List.length_map]; omega))
local macro_rules | `(tactic| walk_at "side") => `(tactic| first
  | with_reducible assumption
  | omega
  | exact ml (by omega) (by omega)
  | exact mr (by omega) (by omega)
  | exact dv (by omega) (by omega)
  | exact Bd.mulOk (by with_reducible assumption) (by with_reducible assumption) (by decide) (by decide) (by decide)
  | exact Bd.div (by with_reducible assumption) (by omega) (by decide) (by decide)
  | (show (0 : Int) < _; omega)
  | exact ⟨by decide, by decide, by decide⟩
  | decide
  | exact rfl)
local macro_rules | `(tactic| walk_at "st") => `(tactic| first
  | with_reducible refine q_seq ?_
  | with_reducible refine q_end ?_
  | with_reducible refine q_nil ?_
  | with_reducible refine q_asg ?_
  | with_reducible refine q_ret ?_
  | with_reducible refine q_if ?_
  | with_reducible refine q_expr ?_
  | with_reducible refine q_retN ?_
  | with_reducible refine q_sub ?_
  | with_reducible refine q_for ?_
  | with_reducible refine q_par ?_
  | with_reducible refine q_par3 ?_
  | with_reducible refine q_parV ?_
  | with_reducible refine q_parV3 ?_
  | with_reducible refine q_asgF ?_
  | with_reducible refine q_asgC ?_
  | ((with_reducible refine' q_frz ?ef ?_); (case ef => exact rfl))
  | ((with_reducible refine' q_app ?ea ?eb ?_); (case ea => exact rfl); (case eb => walk_at "slen"))
  | with_reducible refine q_brk ?_
  | with_reducible refine q_cnt ?_
  | with_reducible refine q_fldS ?_
  | with_reducible refine q_fldP ?_
  | with_reducible refine q_raise ?_
  | with_reducible refine q_try ?_)
local macro_rules | `(tactic| walk_at "slen") => `(tactic| first
  | with_reducible assumption
  | ((rw [sizeLine_eq]); (simp only [List.length_cons, List.length_nil, List.length_append, List.length_map]); omega))
local macro_rules | `(tactic| walk_at "sm") => `(tactic| first
  | with_reducible refine s_add ?_
  | with_reducible refine s_sub ?_
  | ((with_reducible refine' s_mul ?hm ?_); (case hm => walk_at "side"))
  | ((with_reducible refine' s_fdiv ?hm ?_); (case hm => walk_at "side"))
  | ((with_reducible refine' s_mod ?hm ?_); (case hm => walk_at "side"))
  | with_reducible refine s_neg ?_
  | ((with_reducible refine' s_pow ?hm ?_); (case hm => walk_at "side"))
  | ((with_reducible refine' s_ixL ?hl ?he ?_); (case hl => walk_at "ls"); (case he => exact rfl))
  | ((with_reducible refine' s_ixT ?he ?_); (case he => exact rfl))
  | ((with_reducible refine' set_L2 ?ha ?hb ?hc ?_); (case ha => with_reducible assumption); (case hb => exact rfl); (case hc => walk_at "set"))
  | with_reducible refine s_addB ?_
  | with_reducible refine s_lt ?_
  | with_reducible refine s_le ?_
  | with_reducible refine s_gt ?_
  | with_reducible refine s_ge ?_
  | with_reducible refine s_eq ?_
  | with_reducible refine s_ne ?_
  | with_reducible refine s_eqS ?_
  | with_reducible refine s_neS ?_
  | with_reducible refine s_isN ?_
  | with_reducible refine s_isNotN ?_
  | with_reducible refine t_bl ?_)
local macro_rules | `(tactic| walk_at "cl") => `(tactic| first
  | with_reducible refine c_int ?_
  | with_reducible refine c_intB ?_
  | with_reducible refine c_abs ?_
  | ((with_reducible refine' c_max ?hm ?_); (case hm => exact rfl))
  | ((with_reducible refine' c_min ?hm ?_); (case hm => exact rfl))
  | ((with_reducible refine' c_divmod ?hm ?_); (case hm => walk_at "side"))
  | ((with_reducible refine' c_len ?hm ?_); (case hm => walk_at "sq"))
  | ((with_reducible refine' c_list ?hm ?_); (case hm => walk_at "sq"))
  | ((with_reducible refine' c_tuple ?hm ?_); (case hm => walk_at "sq")))
local macro_rules | `(tactic| walk_at "sq") => `(tactic| first
  | exact sqL
  | exact sqT
  | exact sqB
  | exact sqP (by with_reducible assumption))
local macro_rules | `(tactic| walk_at "v") => `(tactic| first
  | ((with_reducible refine' v_sh ?ev ?_); (case ev => exact rfl))
  | ((with_reducible refine' v_ol ?ev ?_); (case ev => exact rfl))
  | ((with_reducible refine' v_slf ?ev ?_); (case ev => exact rfl))
  | with_reducible refine q_val ?_
  | ((with_reducible refine' q_walk ?ew ?_); (case ew => exact rfl))
  | ((with_reducible refine' q_rng1 ?ej ?ek ?_); (case ej => walk_at "rg"); (case ek => walk_at "rg"))
  | ((with_reducible refine' q_rng2 ?ej ?_); (case ej => walk_at "rg"))
  | with_reducible refine q_rngL ?_
  | with_reducible refine q_solc ?_
  | with_reducible refine q_sol0 ?_
  | ((with_reducible refine' q_gname ?eg ?_); (case eg => walk_at "set"))
  | ((with_reducible refine' n_set ?eg ?_); (case eg => walk_at "set"))
  | ((with_reducible refine' n_set2 ?eg ?_); (case eg => walk_at "set"))
  | ((with_reducible refine' n_set3 ?eg ?_); (case eg => walk_at "set"))
  | with_reducible refine q_two ?_
  | with_reducible refine q_three ?_
  | with_reducible refine q_vv ?_
  | with_reducible refine q_isS ?_
  | with_reducible refine q_isL ?_
  | with_reducible refine q_twoV ?_
  | with_reducible refine q_threeV ?_
  | with_reducible refine q_bl ?_
  | with_reducible refine q_oint ?_
  | ((with_reducible refine' q_gtup ?el ?_); (case el => exact rfl))
  | with_reducible refine q_gcons ?_
  | with_reducible refine q_gnil ?_
  | with_reducible refine i_t ?_
  | with_reducible refine i_f ?_
  | with_reducible refine i_nt ?_
  | with_reducible refine i_nf ?_
  | ((with_reducible refine' n_t ?en ?_); (case en => exact rfl))
  | ((with_reducible refine' n_f ?en ?_); (case en => exact rfl))
  | ((with_reducible refine' nn_t ?en ?_); (case en => exact rfl))
  | ((with_reducible refine' nn_f ?en ?_); (case en => exact rfl))
  | with_reducible refine And.intro (by walk_at "sz") ?_)
local macro_rules | `(tactic| walk_at "d") => `(tactic| first
  | walk_at "v"
  | walk_at "st"
  | walk_at "sm"
  | walk_at "cl"
  | walk_at "at")
local macro_rules | `(tactic| walk_at "dd") => `(tactic| repeat walk_at "d")
local macro_rules | `(tactic| walk_at "tx") => `(tactic| simp only [l_dash, l_dot, l_nil, l_space, l_figs, l_signs])

variable {P : Program} {w : World} {K : PySem.W.Frag} {mg : Str → Option Value} {base : Heap} {S : Sto} {Ex : XS} {Q : QO}

theorem ok_mean_looked (T : Tx K mg) {rs : List (List Nat)} (h : Plan rs) {N M : Int} {b : Nat} (bN : Bd b N) (bM : Bd b M) (hb : b ≤ 400) (n0 : (rs.length : Int) - 1 ≤ N) (n1 : N ≤ SIZ) (m0 : 0 ≤ M) (m1 : M ≤ N) (hL : rs.length ≤ 21)
    (q : ∀ t : Int, t = lsum (stops rs) (fun s => s.m * drw (rs.length - 1) N M s) → Q (.v (ratD (t / (Int.gcd t (fall N (rs.length - 1)) : Nat)) (fall N (rs.length - 1) / (Int.gcd t (fall N (rs.length - 1)) : Nat)))) S) : sFun (bs P w K mg base) 6 (.ref (He.ga K "mean_looked")) [] [planD rs, .int N, .int M] [] S Ex Q := by
  refine' call_d (B := bs P w K mg base) 5 (Classical.choose_spec T.d_mean_looked) sc_mean_looked rfl (bm_all (ps := ["plan", "size", "marked"]) (Classical.choose_spec T.d_mean_looked) (fun _ _ _ _ _ _ us hl => match us, hl with | [_, _, _], _ => rfl)) (dss_cons (ds_expr (de_call rfl rfl ⟨T.g_check_plan, (Classical.choose_spec T.d_check_plan).kp⟩ (da_cons (dv 0) da_nil))) (dss_cons (ds_expr (de_call rfl rfl ⟨T.g_check_table, (Classical.choose_spec T.d_check_table).kp⟩ (da_cons (dv 0) (da_cons (dv 1) (da_cons (dv 2) da_nil))))) (dss_cons (dst 3 de_int) (dss_cons (ds_for rfl rfl (di_val (de_call rfl rfl ⟨T.g_stops_of, (Classical.choose_spec T.d_stops_of).kp⟩ (da_cons (de_attr (dv 0)) da_nil))) (dgn 4) (dss_one (dst 3 (de_bin (dv 3) (de_bin (de_ix (dv 4) de_int (fun _ _ => rfl)) (de_call rfl rfl ⟨T.g_stop_draws, (Classical.choose_spec T.d_stop_draws).kp⟩ (da_cons (dv 4) (da_cons (de_attr (dv 0)) (da_cons (dv 1) (da_cons (dv 2) da_nil)))))))))) (dss_one (ds_ret (de_call rfl rfl ⟨T.g_Ratio, T.mk_Ratio.kp⟩ (da_cons (dv 3) (da_cons (de_call rfl rfl ⟨T.g_product_down, (Classical.choose_spec T.d_product_down).kp⟩ (da_cons (dv 1) (da_cons (de_attr (dv 0)) da_nil))) da_nil))))))))) ⟨rfl, rfl⟩ ?st ?_
  case st => walk_at "start"
  have two := h.ok.two
  walk_at "dd"
  refine (ok_check_plan T ?_).mono (Nat.le_of_ble_eq_true rfl)
  walk_at "dd"
  refine (ok_check_table T n0 n1 m0 m1 ?_).mono (Nat.le_of_ble_eq_true rfl)
  walk_at "dd"
  refine sAttr_f isI_ins T.cl_Plan T.n_Plan_rows rfl ?_
  walk_at "dd"
  refine (ok_stops_of T h ?_).mono (Nat.le_of_ble_eq_true rfl)
  walk_at "dd"
  refine loop_inv (fun i ρ S' => S' = S ∧ i ≤ (stops rs).length ∧ ∃ x4 : Sl, ρ = [.sh (planD rs), .sh (.int N), .sh (.int M), .sh (.int (lsum ((stops rs).take i) fun s => s.m * drw (rs.length - 1) N M s)), x4]) ⟨rfl, Nat.zero_le _, _, rfl⟩ ?_ ?_
  · rintro i x ρ S' Nx hx ⟨rfl, hi, x4, rfl⟩ hN
    rw [List.getElem?_map] at hx
    obtain ⟨s, hs, rfl⟩ := Option.map_eq_some_iff.mp hx
    have hlt := (List.getElem?_eq_some_iff.mp hs).1
    obtain ⟨so, sc⟩ := stop_mem h (List.mem_of_getElem? hs)
    have a0 : L2.atI [D.int s.m, .int s.k, .int s.c, .int s.w] (0 : Int) = some (.int s.m) := rfl
    have sm := so.m
    walk_at "dd"
    refine sAttr_f isI_ins T.cl_Plan T.n_Plan_longest rfl ?_
    walk_at "dd"
    rw [show (rs.length : Int) - 1 = ((rs.length - 1 : Nat) : Int) by omega]
    refine (ok_stop_draws T so (by omega) bN bM (by omega) ?_).mono (Nat.le_of_ble_eq_true rfl)
    have bd := bd_drw so (by omega) bN bM (by omega)
    have mok : IntMulOk (s.m : Int) (drw (rs.length - 1) N M s) := (bd_nat (n := s.m) (k := 5) (by omega)).mulOk bd (by decide) (by decide) (by decide)
    clear bd
    walk_at "dd"
    have er : (lsum ((stops rs).take (i + 1)) fun s => (s.m : Int) * drw (rs.length - 1) N M s) = (lsum ((stops rs).take i) fun s => (s.m : Int) * drw (rs.length - 1) N M s) + s.m * drw (rs.length - 1) N M s := by
      rw [List.take_add_one, hs, show (some s : Option Stp).toList = [s] from rfl, lsum_app, lsum_cons, lsum_nil, Int.add_zero]
    exact hN _ _ ⟨rfl, hlt, _, by rw [er] <;> exact rfl⟩
  · rintro ρ S' ⟨rfl, _, x4, rfl⟩
    rw [List.length_map, List.take_length]
    have nn : 0 ≤ lsum (stops rs) fun s => s.m * drw (rs.length - 1) N M s := lsum_nn fun s hs => by
      have so := (stop_mem h hs).1
      have := so.m
      exact Int.mul_nonneg (by omega) (drw_nn m0 m1 (by omega))
    have q := q _ rfl
    generalize (lsum (stops rs) fun s => s.m * drw (rs.length - 1) N M s) = t at nn q ⊢
    walk_at "dd"
    refine sAttr_f isI_ins T.cl_Plan T.n_Plan_longest rfl ?_
    walk_at "dd"
    rw [show (rs.length : Int) - 1 = ((rs.length - 1 : Nat) : Int) by omega]
    refine (ok_product_down T bN (by omega) (by omega) ?_).mono (Nat.le_of_ble_eq_true rfl)
    have fp : 0 < fall N (rs.length - 1) := fall_pos (by omega)
    walk_at "dd"
    have bf := bd_fall bN (n := rs.length - 1) (by omega)
    have bz : (b + 6) * (rs.length - 1) ≤ 406 * 20 := Nat.mul_le_mul (by omega) (by omega)
    refine (ok_Ratio T nn fp bf (by omega) (by omega) ?_).mono (Nat.le_of_ble_eq_true rfl)
    exact ⟨_, rfl, q⟩
/-! the law's own counts -/
abbrev mkD (ms : List Nat) : D := .tup (ms.map fun x => .int (x : Nat))
theorem ok_many (T : Tx K mg) {rs : List (List Nat)} (hl : ∀ r ∈ rs, r.length ≤ 21) (h21 : rs.length ≤ 21) (q : Q (.v (.int (cls rs).length)) S) : sFun (bs P w K mg base) 1 (.ref (He.ga K "_law_many")) [] [.lst (rs.map tx)] [] S Ex Q := by
  refine' call_d (B := bs P w K mg base) 0 (Classical.choose_spec T.d_law_many) sc_law_many rfl (bm_all (ps := ["_law_told"]) (Classical.choose_spec T.d_law_many) (fun _ _ _ _ _ _ us hl => match us, hl with | [_], _ => rfl)) (dss_one (ds_ret (de_callB (id := "len") rfl T.f_len (by decide +kernel) (da_cons (DF.de (df_lc (own := [("_law_sign", 1)]) rfl (by decide) (di_val de_str) (blkOk_by (N := ["_law_told", "_law_sign"]) (sc := defScope s_law_many) (by decide +kernel)) (dgn 1) (dts_one (dt_cmp (dv 1) (de_bm PySem.F.plainAttrs_str PySem.F.slot_str_join PySem.F.type_str_join de_str (da_cons (dv 0) da_nil)))) (dv 1))) da_nil)))) ⟨rfl, rfl⟩ ?st ?_
  case st => walk_at "start"
  have sr := sum_rows rs 21 hl
  simp only [l_nil, l_figs]
  walk_at "dd"
  rw [sgn_tx]
  refine lc_pure (fun d => match d with | .str x => decide (x.cps.toList.headD 0 ∈ rs.flatten) | _ => false) (fun d => d) (Nat.le_of_ble_eq_true rfl) (fun z hz X Y h1 h2 => ?_) ?_
  · rw [l_figs8, List.map_map] at hz
    obtain ⟨m, hm, rfl⟩ := List.mem_map.mp hz
    have hm := List.mem_range.mp hm
    walk_at "dd"
    refine m_join (ls := rs) (sep := []) sqL (by show _ + rs.length * 0 ≤ _; omega) ?_
    rw [joinL_nil]
    walk_at "dd"
    refine s_inT (c := 48 + m) ?_
    walk_at "dd"
    refine i_two (fun c => ?_) fun c => ?_
    · walk_at "dd"
      exact h1 (decide_eq_true c)
    · walk_at "dd"
      exact h2 (decide_eq_false c)
  have ek : (([48, 49, 50, 51, 52, 53, 54, 55].map fun c => tx [c]).filter (fun d => match d with | .str x => decide (x.cps.toList.headD 0 ∈ rs.flatten) | _ => false)).map (fun d => d) = (cls rs).map fun n => tx [48 + n] := by
    rw [List.map_id', l_figs8, List.map_map, List.filter_map] <;> rfl
  rw [ek]
  walk_at "dd"
  rw [List.length_map]
  exact q
/-- where a run stands -/
theorem goM_drop {rs : List (List Nat)} {m k : Nat} {ms : List Nat} {x : Nat} (hx : ms[m]? = some x) (c : sgn rs m k = 45) : goM rs m k (ms.drop m) = goM rs (m + 1) (k + x) (ms.drop (m + 1)) := by
  obtain ⟨hl, e⟩ := List.getElem?_eq_some_iff.mp hx
  rw [List.drop_eq_getElem_cons hl, e]
  exact if_pos c
theorem goM_stop {rs : List (List Nat)} {m k : Nat} {ms : List Nat} (c : sgn rs m k ≠ 45) : goM rs m k ms = (sgn rs m k - 48, m) := by
  cases ms with
  | nil => rfl
  | cons x ms => exact if_neg c
end Toy

set_option Elab.async false
set_option linter.all false
set_option maxRecDepth 100000
set_option maxHeartbeats 8000000
namespace Toy
open PySem PySem.Spec PyProof.Rows L2 My Dt SX Pln
local macro_rules | `(tactic| walk_at "rg") => `(tactic| first
  | omega
  | ((refine And.intro ?_ (And.intro ?_ (And.intro ?_ ?_))) <;> omega))
local macro_rules | `(tactic| walk_at "ls") => `(tactic| first
  | with_reducible exact ls_v
  | with_reducible exact ls_b
  | ((with_reducible refine' ls_p ?hlp); (case hlp => with_reducible assumption)))
local macro_rules | `(tactic| walk_at "start") => `(tactic| ((simp only [startM, startS, List.map_cons, List.map_nil, List.length_cons, List.length_nil, List.cons_append, List.nil_append, Nat.reduceAdd, Nat.reduceSub, List.replicate_succ, List.replicate_zero]); exact rfl))
local macro_rules | `(tactic| walk_at "set") => `(tactic| first
  | ((dsimp only [Int.reduceToNat, List.set_cons_zero, List.set_cons_succ, VO.sl]); done)
  | ((dsimp only [Int.reduceToNat, List.set_cons_zero, List.set_cons_succ, VO.sl]); exact rfl)
  | exact rfl)
local macro_rules | `(tactic| walk_at "sz") => `(tactic| first
  | exact sz_of (Nat.le_of_ble_eq_true rfl)
  | (apply sz_of; simp only [List.length_cons, List.length_nil, List.length_append, List.length_map]; omega))
local macro_rules | `(tactic| walk_at "side") => `(tactic| first
  | with_reducible assumption
  | omega
  | exact ml (by omega) (by omega)
  | exact mr (by omega) (by omega)
  | exact dv (by omega) (by omega)
  | exact Bd.mulOk (by with_reducible assumption) (by with_reducible assumption) (by decide) (by decide) (by decide)
  | exact Bd.div (by with_reducible assumption) (by omega) (by decide) (by decide)
  | (show (0 : Int) < _; omega)
  | exact ⟨by decide, by decide, by decide⟩
  | decide
  | exact rfl)
local macro_rules | `(tactic| walk_at "st") => `(tactic| first
  | with_reducible refine q_seq ?_
  | with_reducible refine q_end ?_
  | with_reducible refine q_nil ?_
  | with_reducible refine q_asg ?_
  | with_reducible refine q_ret ?_
  | with_reducible refine q_if ?_
  | with_reducible refine q_expr ?_
  | with_reducible refine q_retN ?_
  | with_reducible refine q_sub ?_
  | with_reducible refine q_for ?_
  | with_reducible refine q_par ?_
  | with_reducible refine q_par3 ?_
  | with_reducible refine q_parV ?_
  | with_reducible refine q_parV3 ?_
  | with_reducible refine q_asgF ?_
  | with_reducible refine q_asgC ?_
  | ((with_reducible refine' q_frz ?ef ?_); (case ef => exact rfl))
  | ((with_reducible refine' q_app ?ea ?eb ?_); (case ea => exact rfl); (case eb => walk_at "slen"))
  | with_reducible refine q_brk ?_
  | with_reducible refine q_cnt ?_
  | with_reducible refine q_fldS ?_
  | with_reducible refine q_fldP ?_
  | with_reducible refine q_raise ?_
  | with_reducible refine q_try ?_)
local macro_rules | `(tactic| walk_at "slen") => `(tactic| first
  | with_reducible assumption
  | ((rw [sizeLine_eq]); (simp only [List.length_cons, List.length_nil, List.length_append, List.length_map]); omega))
local macro_rules | `(tactic| walk_at "sm") => `(tactic| first
  | with_reducible refine s_add ?_
  | with_reducible refine s_sub ?_
  | ((with_reducible refine' s_mul ?hm ?_); (case hm => walk_at "side"))
  | ((with_reducible refine' s_fdiv ?hm ?_); (case hm => walk_at "side"))
  | ((with_reducible refine' s_mod ?hm ?_); (case hm => walk_at "side"))
  | with_reducible refine s_neg ?_
  | ((with_reducible refine' s_pow ?hm ?_); (case hm => walk_at "side"))
  | ((with_reducible refine' s_ixL ?hl ?he ?_); (case hl => walk_at "ls"); (case he => exact rfl))
  | ((with_reducible refine' s_ixT ?he ?_); (case he => exact rfl))
  | ((with_reducible refine' set_L2 ?ha ?hb ?hc ?_); (case ha => with_reducible assumption); (case hb => exact rfl); (case hc => walk_at "set"))
  | with_reducible refine s_addB ?_
  | with_reducible refine s_lt ?_
  | with_reducible refine s_le ?_
  | with_reducible refine s_gt ?_
  | with_reducible refine s_ge ?_
  | with_reducible refine s_eq ?_
  | with_reducible refine s_ne ?_
  | with_reducible refine s_eqS ?_
  | with_reducible refine s_neS ?_
  | with_reducible refine s_isN ?_
  | with_reducible refine s_isNotN ?_
  | with_reducible refine t_bl ?_)
local macro_rules | `(tactic| walk_at "cl") => `(tactic| first
  | with_reducible refine c_int ?_
  | with_reducible refine c_intB ?_
  | with_reducible refine c_abs ?_
  | ((with_reducible refine' c_max ?hm ?_); (case hm => exact rfl))
  | ((with_reducible refine' c_min ?hm ?_); (case hm => exact rfl))
  | ((with_reducible refine' c_divmod ?hm ?_); (case hm => walk_at "side"))
  | ((with_reducible refine' c_len ?hm ?_); (case hm => walk_at "sq"))
  | ((with_reducible refine' c_list ?hm ?_); (case hm => walk_at "sq"))
  | ((with_reducible refine' c_tuple ?hm ?_); (case hm => walk_at "sq")))
local macro_rules | `(tactic| walk_at "sq") => `(tactic| first
  | exact sqL
  | exact sqT
  | exact sqB
  | exact sqP (by with_reducible assumption))
local macro_rules | `(tactic| walk_at "v") => `(tactic| first
  | ((with_reducible refine' v_sh ?ev ?_); (case ev => exact rfl))
  | ((with_reducible refine' v_ol ?ev ?_); (case ev => exact rfl))
  | ((with_reducible refine' v_slf ?ev ?_); (case ev => exact rfl))
  | with_reducible refine q_val ?_
  | ((with_reducible refine' q_walk ?ew ?_); (case ew => exact rfl))
  | ((with_reducible refine' q_rng1 ?ej ?ek ?_); (case ej => walk_at "rg"); (case ek => walk_at "rg"))
  | ((with_reducible refine' q_rng2 ?ej ?_); (case ej => walk_at "rg"))
  | with_reducible refine q_rngL ?_
  | with_reducible refine q_solc ?_
  | with_reducible refine q_sol0 ?_
  | ((with_reducible refine' q_gname ?eg ?_); (case eg => walk_at "set"))
  | ((with_reducible refine' n_set ?eg ?_); (case eg => walk_at "set"))
  | ((with_reducible refine' n_set2 ?eg ?_); (case eg => walk_at "set"))
  | ((with_reducible refine' n_set3 ?eg ?_); (case eg => walk_at "set"))
  | with_reducible refine q_two ?_
  | with_reducible refine q_three ?_
  | with_reducible refine q_vv ?_
  | with_reducible refine q_isS ?_
  | with_reducible refine q_isL ?_
  | with_reducible refine q_twoV ?_
  | with_reducible refine q_threeV ?_
  | with_reducible refine q_bl ?_
  | with_reducible refine q_oint ?_
  | ((with_reducible refine' q_gtup ?el ?_); (case el => exact rfl))
  | with_reducible refine q_gcons ?_
  | with_reducible refine q_gnil ?_
  | with_reducible refine i_t ?_
  | with_reducible refine i_f ?_
  | with_reducible refine i_nt ?_
  | with_reducible refine i_nf ?_
  | ((with_reducible refine' n_t ?en ?_); (case en => exact rfl))
  | ((with_reducible refine' n_f ?en ?_); (case en => exact rfl))
  | ((with_reducible refine' nn_t ?en ?_); (case en => exact rfl))
  | ((with_reducible refine' nn_f ?en ?_); (case en => exact rfl))
  | with_reducible refine And.intro (by walk_at "sz") ?_)
local macro_rules | `(tactic| walk_at "d") => `(tactic| first
  | walk_at "v"
  | walk_at "st"
  | walk_at "sm"
  | walk_at "cl"
  | walk_at "at")
local macro_rules | `(tactic| walk_at "dd") => `(tactic| repeat walk_at "d")
local macro_rules | `(tactic| walk_at "tx") => `(tactic| simp only [l_dash, l_dot, l_nil, l_space, l_figs, l_signs])

variable {P : Program} {w : World} {K : PySem.W.Frag} {mg : Str → Option Value} {base : Heap} {S : Sto} {Ex : XS} {Q : QO}

theorem Bag.add {S z : Sto} {n : Nat} (h : Bag S n) : Bag (S ++ z) n := h.kp (L := []) Kp.app (by simp)
def oi (o : List Nat) : List Int := o.map fun (x : Nat) => (x : Int)
theorem oi_D (o : List Nat) : (o.map fun x => D.int (x : Nat)) = (oi o).map .int := by
  unfold oi
  rw [List.map_map] <;> rfl
theorem oi_P (o : List Nat) : pd (mkD o) = some (.tuple ((oi o).map .int)) := by
  rw [mkD, oi_D]
  show (pds ((oi o).map .int)).map PyData.tuple = _
  rw [pds_map (f := D.int) (g := PyData.int) (fun _ => rfl)] <;> rfl
theorem oi_mem {o : List Nat} {r : Nat} : (r : Int) ∈ oi o ↔ r ∈ o := by
  unfold oi
  rw [List.mem_map]
  constructor
  · rintro ⟨x, hx, e⟩
    rwa [show x = r by omega] at hx
  · intro h
    exact ⟨r, h, rfl⟩
def genD (N : Nat) (o : List Nat) : List (List Nat) := ((List.range N).filter fun r => !decide (r ∈ o)).map fun r => o ++ [r]
theorem ok_all_draws (T : Tx K mg) {N n : Nat} (hN : N ≤ 6) (hn : n ≤ 4) (q : ∀ (S' z : Sto) (p : Nat), S' = S ++ z → S.length ≤ p → S'[p]? = some (.lst ((dr N n).map mkD)) → Q (.v (.ptr p)) S') : sFun (bs P w K mg base) 1 (.ref (He.ga K "_law_all_draws")) [] [.int N, .int n] [] S Ex Q := by
  refine' call_d (B := bs P w K mg base) 0 (Classical.choose_spec T.d_law_all_draws) sc_law_all_draws rfl (bm_all (ps := ["_law_wide", "_law_tall"]) (Classical.choose_spec T.d_law_all_draws) (fun _ _ _ _ _ _ us hl => match us, hl with | [_, _], _ => rfl)) (dss_cons (dst 2 (de_lstP (da_cons (de_tup da_nil) da_nil))) (dss_cons (ds_for rfl rfl (di_range1 rfl T.f_range (da_cons (dv 1) da_nil)) (dgn 3) (dss_cons (dst 4 (de_lstP da_nil)) (dss_cons (ds_forS rfl rfl (dis_val (dv 2)) (dgn 5) (dss_one (ds_expr (de_bm PySem.F.plainAttrs_list PySem.F.slot_list_extend PySem.F.type_list_extend (dv 4) (da_cons (DF.deP (df_lc (own := [("_law_row", 6)]) rfl (by decide) (di_range1 rfl T.f_range (da_cons (dv 0) da_nil)) (blkOk_by (N := ["_law_wide", "_law_tall", "_law_found", "_law_step", "_law_more", "_law_one", "_law_row"]) (sc := defScope s_law_all_draws) (by decide +kernel)) (dgn 6) (dts_one (dt_cmp (dv 6) (dv 5))) (de_bin (dv 5) (de_tup (da_cons (dv 6) da_nil))))) da_nil))))) (dss_one (dst 2 (dv 4)))))) (dss_one (ds_ret (dv 2))))) ⟨rfl, rfl⟩ ?st ?_
  case st => walk_at "start"
  walk_at "dd"
  refine loop_inv (fun i ρ S' => i ≤ n ∧ ∃ (z : Sto) (p : Nat) (x3 x4 x5 : Sl), S' = S ++ z ∧ S.length ≤ p ∧ S'[p]? = some (.lst ((dr N i).map mkD)) ∧ ρ = [.sh (.int N), .sh (.int n), .sh (.ptr p), x3, x4, x5, .un]) ⟨Nat.zero_le _, [.lst [.tup []]], S.length, _, _, _, rfl, Nat.le_refl _, List.getElem?_concat_length, rfl⟩ ?_ ?_
  · rintro i x ρ S' Nx hx ⟨hi, z, p, x3, x4, x5, rfl, pS, ep, rfl⟩ hN1
    obtain ⟨hi2, rfl⟩ := rngD_at hx
    rw [Int.toNat_natCast] at hi2
    rw [Int.zero_add]
    have plt := (List.getElem?_eq_some_iff.mp ep).1
    have sml := dr_small (N := N) (n := i) hN (by omega)
    walk_at "dd"
    have ep2 : (S ++ z ++ [Cell.lst []])[p]? = some (.lst ((dr N i).map mkD)) := by rw [List.getElem?_append_left plt]; exact ep
    have em : (S ++ z ++ [Cell.lst []])[(S ++ z).length]? = some (.lst []) := List.getElem?_concat_length
    obtain ⟨p2, hp2⟩ : ∃ p2, p2 = (S ++ z).length := ⟨_, rfl⟩
    have pne : p2 ≠ p := by omega
    have p2S : S.length ≤ p2 := by rw [hp2, List.length_append]; omega
    rw [← hp2] at em ⊢
    refine .inl ⟨.ptr p, rfl, ?_⟩
    refine ⟨p, (dr N i).map mkD, rfl, ep2, ?_⟩
    refine loop_invS (fun j ρ S2 => j ≤ (dr N i).length ∧ ∃ (z2 : Sto) (x5 : Sl), S2 = S ++ z2 ∧ S2[p]? = some (.lst ((dr N i).map mkD)) ∧ S2[p2]? = some (.lst ((((dr N i).take j).flatMap (genD N)).map mkD)) ∧ (((dr N i).take j).flatMap (genD N)).length ≤ 6 * j ∧ ρ = [.sh (.int N), .sh (.int n), .sh (.ptr p), .sh (.int i), .sh (.ptr p2), x5, .un]) ⟨Nat.zero_le _, z ++ [Cell.lst []], _, by rw [List.append_assoc], ep2, em, Nat.zero_le _, rfl⟩ ?_ ?_ ?_
    · rintro j ρ S2 ⟨_, z2, y5, _, e2, _⟩
      exact e2
    · rintro j x ρ S2 Nx2 hx2 ⟨hj, z2, y5, rfl, e2, e3, hc, rfl⟩ hN2
      rw [List.getElem?_map] at hx2
      obtain ⟨o, ho, rfl⟩ := Option.map_eq_some_iff.mp hx2
      have hj2 := (List.getElem?_eq_some_iff.mp ho).1
      obtain ⟨ol, nd, olt⟩ := dr_mem (List.mem_of_getElem? ho)
      walk_at "dd"
      refine ⟨.inl ⟨rfl, _, e3⟩, ?_⟩
      walk_at "dd"
      let g0 : D → Bool := fun d => match d with | .int k => !decide (k.toNat ∈ o) | _ => false
      let f : D → D := fun d => .tup ((o.map fun x => D.int (x : Nat)) ++ [d])
      have hz : (o.map fun x => D.int (x : Nat)).length + [D.non].length ≤ sizeLine := by
        rw [List.length_map, sizeLine_eq]
        simp only [List.length_cons, List.length_nil]
        omega
      refine lc_pure g0 f (by rw [rngD_len]; omega) (fun y hy X Y k1 k3 => ?_) ?_
      · obtain ⟨k, hk0⟩ := List.mem_iff_getElem?.mp hy
        obtain ⟨hk1, rfl⟩ := rngD_at hk0
        rw [Int.zero_add] at k1 k3 ⊢
        replace k1 : (!decide (k ∈ o)) = true → X (.v (.tup ((o.map fun x => D.int (x : Nat)) ++ [.int k]))) _ := k1
        replace k3 : (!decide (k ∈ o)) = false → Y _ := k3
        walk_at "dd"
        refine s_notInTp (e := .int k) (pdV rfl) (pdV (oi_P o)) rfl (shp_intsT _) ?_
        rw [show (((oi o).map PyData.int).any fun z => PyData.eqv z (.int (k : Int))) = decide (k ∈ o) by
          rw [any_eqv_map eqv_int]
          exact decide_eq_decide.mpr oi_mem]
        walk_at "dd"
        cases hd : decide (k ∈ o) with
        | true =>
          rw [hd] at k3
          rw [if_neg (by decide)]
          exact k3 rfl
        | false =>
          rw [hd] at k1
          rw [if_pos (by decide)]
          walk_at "dd"
          refine s_catT (xs := o.map fun x => D.int (x : Nat)) (ys := [.int k]) hz ?_
          exact k1 rfl
      have ey : ((rngD 0 ((N : Int)).toNat).filter g0).map f = (genD N o).map mkD := by
        unfold genD
        rw [rngD, Int.toNat_natCast, List.filter_map, List.map_map, List.map_map]
        have e1 : (g0 ∘ fun k : Nat => D.int (0 + (k : Int))) = fun r => !decide (r ∈ o) := funext fun k => by
          show (!decide ((0 + (k : Int)).toNat ∈ o)) = _
          rw [show (0 + (k : Int)).toNat = k by omega]
        rw [e1]
        refine List.map_congr_left fun k _ => ?_
        show D.tup ((o.map fun x => D.int (x : Nat)) ++ [.int (0 + (k : Int))]) = mkD (o ++ [k])
        rw [Int.zero_add, mkD, List.map_append] <;> rfl
      rw [ey]
      have gl : (genD N o).length ≤ 6 := by
        unfold genD
        rw [List.length_map]
        have := List.length_filter_le (fun r => !decide (r ∈ o)) (List.range N)
        rw [List.length_range] at this
        omega
      have nxt : ((dr N i).take (j + 1)).flatMap (genD N) = ((dr N i).take j).flatMap (genD N) ++ genD N o := by
        rw [List.take_add_one, ho, show (some o : Option (List Nat)).toList = [o] from rfl, List.flatMap_append, List.flatMap_cons, List.flatMap_nil, List.append_nil]
      have e2' : ∀ c : Cell, (S ++ z2 ++ [c])[p]? = some (.lst ((dr N i).map mkD)) := fun c => by rw [List.getElem?_append_left (List.getElem?_eq_some_iff.mp e2).1]; exact e2
      have p2lt := (List.getElem?_eq_some_iff.mp e3).1
      have e3' : ∀ c : Cell, (S ++ z2 ++ [c])[p2]? = some (.lst ((((dr N i).take j).flatMap (genD N)).map mkD)) := fun c => by rw [List.getElem?_append_left p2lt]; exact e3
      clear ey
      refine (show sCall _ _ (.builtin "list.extend") [] [.v (.ptr p2), .v (.ptr (S ++ z2).length)] [] _ _ _ from ?_)
      refine m_extendP (e3' _) List.getElem?_concat_length (by rw [sizeLine_eq, List.length_map, List.length_map]; omega) ?_
      rw [← List.map_append, ← nxt]
      refine hN2 _ _ ⟨hj2, (z2 ++ [Cell.lst ((genD N o).map mkD)]).set (p2 - S.length) (.lst ((((dr N i).take (j + 1)).flatMap (genD N)).map mkD)), _, ?_, ?_, ?_, by rw [nxt, List.length_append]; omega, rfl⟩
      · rw [List.append_assoc, List.set_append_right _ _ p2S]
      · rw [List.getElem?_set_ne pne]
        exact e2' _
      · exact List.getElem?_set_self (by rw [List.length_append]; omega)
    · rintro ρ S2 ⟨_, z2, y5, rfl, e2, e3, hc, rfl⟩
      rw [List.length_map, List.take_length] at e3
      walk_at "dd"
      exact hN1 _ _ ⟨hi2, z2, p2, _, _, _, rfl, p2S, e3, rfl⟩
  · rintro ρ S' ⟨_, z, p, x3, x4, x5, rfl, pS, ep, rfl⟩
    rw [rngD_len, Int.toNat_natCast] at ep
    walk_at "dd"
    exact q _ z p rfl pS ep
end Toy

set_option Elab.async false
set_option linter.all false
set_option maxRecDepth 100000
set_option maxHeartbeats 8000000
namespace Toy
open PySem PySem.Spec PyProof.Rows L2 My Dt SX Pln
local macro_rules | `(tactic| walk_at "rg") => `(tactic| first
  | omega
  | ((refine And.intro ?_ (And.intro ?_ (And.intro ?_ ?_))) <;> omega))
local macro_rules | `(tactic| walk_at "ls") => `(tactic| first
  | with_reducible exact ls_v
  | with_reducible exact ls_b
  | ((with_reducible refine' ls_p ?hlp); (case hlp => with_reducible assumption)))
local macro_rules | `(tactic| walk_at "start") => `(tactic| ((simp only [startM, startS, List.map_cons, List.map_nil, List.length_cons, List.length_nil, List.cons_append, List.nil_append, Nat.reduceAdd, Nat.reduceSub, List.replicate_succ, List.replicate_zero]); exact rfl))
local macro_rules | `(tactic| walk_at "set") => `(tactic| first
  | ((dsimp only [Int.reduceToNat, List.set_cons_zero, List.set_cons_succ, VO.sl]); done)
  | ((dsimp only [Int.reduceToNat, List.set_cons_zero, List.set_cons_succ, VO.sl]); exact rfl)
  | exact rfl)
local macro_rules | `(tactic| walk_at "sz") => `(tactic| first
  | exact sz_of (Nat.le_of_ble_eq_true rfl)
  | (apply sz_of; simp only [List.length_cons, List.length_nil, List.length_append, List.length_map]; omega))
local macro_rules | `(tactic| walk_at "side") => `(tactic| first
  | with_reducible assumption
  | omega
  | exact ml (by omega) (by omega)
  | exact mr (by omega) (by omega)
  | exact dv (by omega) (by omega)
  | exact Bd.mulOk (by with_reducible assumption) (by with_reducible assumption) (by decide) (by decide) (by decide)
  | exact Bd.div (by with_reducible assumption) (by omega) (by decide) (by decide)
  | (show (0 : Int) < _; omega)
  | exact ⟨by decide, by decide, by decide⟩
  | decide
  | exact rfl)
local macro_rules | `(tactic| walk_at "st") => `(tactic| first
  | with_reducible refine q_seq ?_
  | with_reducible refine q_end ?_
  | with_reducible refine q_nil ?_
  | with_reducible refine q_asg ?_
  | with_reducible refine q_ret ?_
  | with_reducible refine q_if ?_
  | with_reducible refine q_expr ?_
  | with_reducible refine q_retN ?_
  | with_reducible refine q_sub ?_
  | with_reducible refine q_for ?_
  | with_reducible refine q_par ?_
  | with_reducible refine q_par3 ?_
  | with_reducible refine q_parV ?_
  | with_reducible refine q_parV3 ?_
  | with_reducible refine q_asgF ?_
  | with_reducible refine q_asgC ?_
  | ((with_reducible refine' q_frz ?ef ?_); (case ef => exact rfl))
  | ((with_reducible refine' q_app ?ea ?eb ?_); (case ea => exact rfl); (case eb => walk_at "slen"))
  | with_reducible refine q_brk ?_
  | with_reducible refine q_cnt ?_
  | with_reducible refine q_fldS ?_
  | with_reducible refine q_fldP ?_
  | with_reducible refine q_raise ?_
  | with_reducible refine q_try ?_)
local macro_rules | `(tactic| walk_at "slen") => `(tactic| first
  | with_reducible assumption
  | ((rw [sizeLine_eq]); (simp only [List.length_cons, List.length_nil, List.length_append, List.length_map]); omega))
local macro_rules | `(tactic| walk_at "sm") => `(tactic| first
  | with_reducible refine s_add ?_
  | with_reducible refine s_sub ?_
  | ((with_reducible refine' s_mul ?hm ?_); (case hm => walk_at "side"))
  | ((with_reducible refine' s_fdiv ?hm ?_); (case hm => walk_at "side"))
  | ((with_reducible refine' s_mod ?hm ?_); (case hm => walk_at "side"))
  | with_reducible refine s_neg ?_
  | ((with_reducible refine' s_pow ?hm ?_); (case hm => walk_at "side"))
  | ((with_reducible refine' s_ixL ?hl ?he ?_); (case hl => walk_at "ls"); (case he => exact rfl))
  | ((with_reducible refine' s_ixT ?he ?_); (case he => exact rfl))
  | ((with_reducible refine' set_L2 ?ha ?hb ?hc ?_); (case ha => with_reducible assumption); (case hb => exact rfl); (case hc => walk_at "set"))
  | with_reducible refine s_addB ?_
  | with_reducible refine s_lt ?_
  | with_reducible refine s_le ?_
  | with_reducible refine s_gt ?_
  | with_reducible refine s_ge ?_
  | with_reducible refine s_eq ?_
  | with_reducible refine s_ne ?_
  | with_reducible refine s_eqS ?_
  | with_reducible refine s_neS ?_
  | with_reducible refine s_isN ?_
  | with_reducible refine s_isNotN ?_
  | with_reducible refine t_bl ?_)
local macro_rules | `(tactic| walk_at "cl") => `(tactic| first
  | with_reducible refine c_int ?_
  | with_reducible refine c_intB ?_
  | with_reducible refine c_abs ?_
  | ((with_reducible refine' c_max ?hm ?_); (case hm => exact rfl))
  | ((with_reducible refine' c_min ?hm ?_); (case hm => exact rfl))
  | ((with_reducible refine' c_divmod ?hm ?_); (case hm => walk_at "side"))
  | ((with_reducible refine' c_len ?hm ?_); (case hm => walk_at "sq"))
  | ((with_reducible refine' c_list ?hm ?_); (case hm => walk_at "sq"))
  | ((with_reducible refine' c_tuple ?hm ?_); (case hm => walk_at "sq")))
local macro_rules | `(tactic| walk_at "sq") => `(tactic| first
  | exact sqL
  | exact sqT
  | exact sqB
  | exact sqP (by with_reducible assumption))
local macro_rules | `(tactic| walk_at "v") => `(tactic| first
  | ((with_reducible refine' v_sh ?ev ?_); (case ev => exact rfl))
  | ((with_reducible refine' v_ol ?ev ?_); (case ev => exact rfl))
  | ((with_reducible refine' v_slf ?ev ?_); (case ev => exact rfl))
  | with_reducible refine q_val ?_
  | ((with_reducible refine' q_walk ?ew ?_); (case ew => exact rfl))
  | ((with_reducible refine' q_rng1 ?ej ?ek ?_); (case ej => walk_at "rg"); (case ek => walk_at "rg"))
  | ((with_reducible refine' q_rng2 ?ej ?_); (case ej => walk_at "rg"))
  | with_reducible refine q_rngL ?_
  | with_reducible refine q_solc ?_
  | with_reducible refine q_sol0 ?_
  | ((with_reducible refine' q_gname ?eg ?_); (case eg => walk_at "set"))
  | ((with_reducible refine' n_set ?eg ?_); (case eg => walk_at "set"))
  | ((with_reducible refine' n_set2 ?eg ?_); (case eg => walk_at "set"))
  | ((with_reducible refine' n_set3 ?eg ?_); (case eg => walk_at "set"))
  | with_reducible refine q_two ?_
  | with_reducible refine q_three ?_
  | with_reducible refine q_vv ?_
  | with_reducible refine q_isS ?_
  | with_reducible refine q_isL ?_
  | with_reducible refine q_twoV ?_
  | with_reducible refine q_threeV ?_
  | with_reducible refine q_bl ?_
  | with_reducible refine q_oint ?_
  | ((with_reducible refine' q_gtup ?el ?_); (case el => exact rfl))
  | with_reducible refine q_gcons ?_
  | with_reducible refine q_gnil ?_
  | with_reducible refine i_t ?_
  | with_reducible refine i_f ?_
  | with_reducible refine i_nt ?_
  | with_reducible refine i_nf ?_
  | ((with_reducible refine' n_t ?en ?_); (case en => exact rfl))
  | ((with_reducible refine' n_f ?en ?_); (case en => exact rfl))
  | ((with_reducible refine' nn_t ?en ?_); (case en => exact rfl))
  | ((with_reducible refine' nn_f ?en ?_); (case en => exact rfl))
  | with_reducible refine And.intro (by walk_at "sz") ?_)
local macro_rules | `(tactic| walk_at "d") => `(tactic| first
  | walk_at "v"
  | walk_at "st"
  | walk_at "sm"
  | walk_at "cl"
  | walk_at "at")
local macro_rules | `(tactic| walk_at "dd") => `(tactic| repeat walk_at "d")
local macro_rules | `(tactic| walk_at "tx") => `(tactic| simp only [l_dash, l_dot, l_nil, l_space, l_figs, l_signs])

variable {P : Program} {w : World} {K : PySem.W.Frag} {mg : Str → Option Value} {base : Heap} {S : Sto} {Ex : XS} {Q : QO}

theorem joinP (p : List (List Nat)) (h : Plan p) : (p.map (·.length)).sum + p.length * [32].length ≤ 1000000 := by
  have sr := sum_rows p 21 (plan_rl h)
  have most := h.ok.most
  show _ + p.length * 1 ≤ _
  omega
theorem ints_p (ts : List Int) : pd (.lst (ts.map .int)) = some (.list (ts.map .int)) := by
  show (pds (ts.map D.int)).map PyData.list = _
  rw [pds_map (f := D.int) (g := PyData.int) (fun _ => rfl) ts] <;> rfl
theorem cut_ints {xs : List Int} {l : Nat} (h : l < xs.length) : Dt.cutD (xs.map D.int) none (some ((l + 1 : Nat) : Int)) = (xs.take (l + 1)).map D.int := by
  unfold Dt.cutD
  have e : HT.sIx (xs.map D.int).length (xs.map D.int).length (some ((l + 1 : Nat) : Int)) = l + 1 := by
    rw [sIx_nat, List.length_map]
    omega
  rw [e, List.map_take] <;> rfl
def cnN (rs : List (List Nat)) (N M : Int) : List Int := (List.range (cls rs).length).map fun c => lsum (stops rs) fun s => if s.c = c then drw (rs.length - 1) N M s else 0
theorem cnt_cn (rs : List (List Nat)) (N M : Int) : cntD rs N M (stops rs) = (cnN rs N M).map .int := by
  unfold cntD cnN
  rw [List.map_map] <;> rfl
theorem cn_len (rs : List (List Nat)) (N M : Int) : (cnN rs N M).length ≤ 8 := by
  unfold cnN
  rw [List.length_map, List.length_range]
  exact cls_len rs
theorem cn_ln (rs : List (List Nat)) (N M : Int) : (cnN rs N M).length = (cls rs).length := by
  unfold cnN
  rw [List.length_map, List.length_range]
theorem rng_mem {n : Nat} {z : D} (h : z ∈ rngD 0 (n : Int).toNat) : ∃ j : Nat, j < n ∧ z = .int j := by
  unfold rngD at h
  obtain ⟨j, hj, rfl⟩ := List.mem_map.mp h
  have := List.mem_range.mp hj
  exact ⟨j, by omega, congrArg D.int (by omega)⟩
def upN (rs : List (List Nat)) (N M : Int) (j : Nat) : Int := lsum (stops rs) fun s => if s.c ≤ j then drw (rs.length - 1) N M s else 0
def upD (rs : List (List Nat)) (N M : Int) : D → D
  | .int j => .int (upN rs N M j.toNat)
  | _ => .non
theorem cn_sum (rs : List (List Nat)) (N M : Int) {j : Nat} (h : j < (cnN rs N M).length) : ((cnN rs N M).take (j + 1)).sum = upN rs N M j := by
  have key : ∀ k : Nat, ((List.range k).map fun c => lsum (stops rs) fun s => if s.c = c then drw (rs.length - 1) N M s else 0).sum = lsum (stops rs) fun s => if s.c < k then drw (rs.length - 1) N M s else 0 := fun k => by
    induction k with
    | zero => exact (lsum_zero (xs := stops rs)).symm
    | succ k ih =>
      rw [List.range_succ, List.map_append, List.sum_append, ih, List.map_cons, List.map_nil, List.sum_cons, List.sum_nil, Int.add_zero, ← lsum_add]
      refine lsum_congr fun s _ => ?_
      by_cases c : s.c = k
      · rw [if_neg (by omega), if_pos c, if_pos (by omega), Int.zero_add]
      · by_cases d : s.c < k
        · rw [if_pos d, if_neg c, if_pos (by omega), Int.add_zero]
        · rw [if_neg d, if_neg c, if_neg (by omega), Int.add_zero]
  rw [cn_ln] at h
  unfold cnN upN
  rw [← List.map_take, List.take_range, Nat.min_eq_left (by omega), key]
  exact lsum_congr fun s _ => by
    by_cases c : s.c ≤ j
    · rw [if_pos c, if_pos (by omega)]
    · rw [if_neg c, if_neg (by omega)]
theorem bd_lsum {α : Type} {f : α → Int} {b m : Nat} {xs : List α} (h : ∀ x ∈ xs, Bd b (f x)) (l : xs.length < 2 ^ m) : Bd (b + m) (lsum xs f) := by
  have key : ∀ ys : List α, (∀ x ∈ ys, Bd b (f x)) → (lsum ys f).natAbs ≤ ys.length * 2 ^ b := fun ys => by
    induction ys with
    | nil => exact fun _ => Nat.zero_le _
    | cons y ys ih =>
      intro h
      have h1 : (f y).natAbs < 2 ^ b := h y (.head _)
      have h2 := ih fun x hx => h x (.tail _ hx)
      rw [lsum_cons, List.length_cons, Nat.succ_mul]
      have := Int.natAbs_add_le (f y) (lsum ys f)
      omega
  refine Nat.lt_of_le_of_lt (key xs h) ?_
  rw [Nat.pow_add, Nat.mul_comm (2 ^ b)]
  exact Nat.mul_lt_mul_of_pos_right l (Nat.two_pow_pos b)
theorem bd_div {a : Int} {g b : Nat} (h : 0 ≤ a) (d : Bd b a) : Bd b (a / (g : Nat)) := by
  obtain ⟨n, rfl⟩ := Int.eq_ofNat_of_zero_le h
  unfold Bd at d ⊢
  rw [← Int.natCast_ediv, Int.natAbs_natCast]
  rw [Int.natAbs_natCast] at d
  exact Nat.lt_of_le_of_lt (Nat.div_le_self _ _) d
theorem cross {a b : Int} : a / (Int.gcd a b : Nat) * b = b / (Int.gcd a b : Nat) * a := by
  rw [Int.mul_comm, ← Int.mul_ediv_assoc _ (Int.gcd_dvd_left ..), Int.mul_comm (b / _), ← Int.mul_ediv_assoc _ (Int.gcd_dvd_right ..), Int.mul_comm]
theorem ok_law_int (T : Tx K mg) {i : Int} (q : Q (.v (.bl true)) S) : sFun (bs P w K mg base) 1 (.ref (He.ga K "_law_int")) [] [.int i] [] S Ex Q := by
  refine' call_d (B := bs P w K mg base) 0 (Classical.choose_spec T.d_law_int) sc_law_int rfl (bm_all (ps := ["_law_thing"]) (Classical.choose_spec T.d_law_int) (fun _ _ _ _ _ _ us hl => match us, hl with | [_], _ => rfl)) (dss_one (ds_ret (de_and (de_callB (id := "isinstance") rfl T.f_isinstance (by decide +kernel) (da_cons (dv 0) (da_cons (de_ty (n := "int") rfl T.f_int (by decide +kernel)) da_nil))) (de_one (de_not (de_callB (id := "isinstance") rfl T.f_isinstance (by decide +kernel) (da_cons (dv 0) (da_cons (de_ty (n := "bool") rfl T.f_bool (by decide +kernel)) da_nil)))))))) ⟨rfl, rfl⟩ ?st ?_
  case st => walk_at "start"
  walk_at "dd"
  refine c_isi (tyK rfl) rfl T.i_Nint ?_
  walk_at "dd"
  refine c_isi (tyK rfl) rfl T.i_Bint ?_
  walk_at "dd"
  exact q
theorem run_cls {rs : List (List Nat)} (h : Plan rs) : ∀ {ms : List Nat} {m k : Nat}, m < rs.length → k ≤ m → isS (sgn rs m k) = true → rs.length ≤ m + 1 + ms.length → (∀ x ∈ ms, x ≤ 1) → (goM rs m k ms).1 < (cls rs).length := by
  have stopc : ∀ {m k : Nat}, m < rs.length → k ≤ m → isS (sgn rs m k) = true → sgn rs m k ≠ 45 → sgn rs m k - 48 < (cls rs).length := fun {m k} hm hk hs c => by
    have g := dig_of hs c
    have mem : sgn rs m k ∈ rs.flatten := by
      have l := h.ok.len m hm
      unfold sgn
      rw [List.getD_eq_getElem?_getD, List.getElem?_eq_getElem (by omega)]
      refine List.mem_flatten.mpr ⟨rs.getD m [], ?_, List.getElem_mem _⟩
      rw [List.getD_eq_getElem?_getD, List.getElem?_eq_getElem hm]
      exact List.getElem_mem _
    have hc := cls_of (rs := rs) (n := sgn rs m k - 48) (by omega) (by rw [show 48 + (sgn rs m k - 48) = sgn rs m k by omega]; exact mem)
    rw [h.ok.all_] at hc
    exact List.mem_range.mp hc
  intro ms
  induction ms with
  | nil =>
    intro m k hm hk hs hl _
    refine stopc hm hk hs fun c => ?_
    have := h.ok.low hm hk c
    simp at hl
    omega
  | cons x ms ih =>
    intro m k hm hk hs hl one
    by_cases c : sgn rs m k = 45
    · have low := h.ok.low hm hk c
      have x1 := one x (.head _)
      rw [show goM rs m k (x :: ms) = goM rs (m + 1) (k + x) ms from if_pos c]
      rw [List.length_cons] at hl
      exact ih low (by omega) (h.ok.next low hk c x1).1 (by omega) fun y hy => one y (.tail _ hy)
    · rw [goM_stop c]
      exact stopc hm hk hs c
abbrev mkL (ms : List Nat) : D := .lst (ms.map fun x => .int (x : Nat))
theorem ok_law_runL (T : Tx K mg) {rs : List (List Nat)} {ms : List Nat} (h : Plan rs) (l : ms.length = rs.length - 1) (one : ∀ x ∈ ms, x ≤ 1) (q : ∀ c m : Nat, goM rs 0 0 ms = (c, m) → c ≤ 7 → m ≤ 20 → Q (.v (.tup [.int c, .int m])) S) : sFun (bs P w K mg base) 1 (.ref (He.ga K "_law_run")) [] [.lst (rs.map tx), mkL ms] [] S Ex Q := by
  refine' call_d (B := bs P w K mg base) 0 (Classical.choose_spec T.d_law_run) sc_law_run rfl (bm_all (ps := ["_law_told", "_law_marks"]) (Classical.choose_spec T.d_law_run) (fun _ _ _ _ _ _ us hl => match us, hl with | [_, _], _ => rfl)) (dss_cons (dst 2 de_int) (dss_cons (ds_for rfl rfl (di_range1 rfl T.f_range (da_cons (de_callB (id := "len") rfl T.f_len (by decide +kernel) (da_cons (dv 0) da_nil)) da_nil)) (dgn 3) (dss_cons (ds_if (dt_cmp (de_ix (de_ix (dv 0) (dv 3) (fun _ _ => rfl)) (dv 2) (fun _ _ => rfl)) de_str) (dss_one (ds_ret (de_tup (da_cons (de_callT (T := "int") rfl T.f_int (by decide +kernel) (da_cons (de_ix (de_ix (dv 0) (dv 3) (fun _ _ => rfl)) (dv 2) (fun _ _ => rfl)) da_nil)) (da_cons (dv 3) da_nil))))) dss_nil) (dss_one (dst 2 (de_bin (dv 2) (de_ix (dv 1) (dv 3) (fun _ _ => rfl))))))) (dss_one (ds_ret (de_tup (da_cons de_int (da_cons de_int da_nil))))))) ⟨rfl, rfl⟩ ?st ?_
  case st => walk_at "start"
  have most := h.ok.most
  have two := h.ok.two
  simp only [l_dash]
  walk_at "dd"
  rw [List.length_map]
  walk_at "dd"
  refine loop_inv (fun i ρ S' => S' = S ∧ i ≤ rs.length ∧ (i < rs.length → ∃ k : Nat, k ≤ i ∧ isS (sgn rs i k) = true ∧ goM rs 0 0 ms = goM rs i k (ms.drop i) ∧ ∃ x3 : Sl, ρ = [.sh (.lst (rs.map tx)), .sh (mkL ms), .sh (.int k), x3]) ∧ (i = rs.length → False)) ⟨rfl, Nat.zero_le _, fun _ => ⟨0, Nat.le_refl _, by
      show isS ((rs.getD 0 []).getD 0 0) = true
      rw [h.ok.one]
      decide, rfl, _, rfl⟩, fun z => by omega⟩ ?_ ?_
  · rintro i x ρ S' Nx hx ⟨rfl, hi, st, _⟩ hN
    obtain ⟨hi2, rfl⟩ := rngD_at hx
    rw [Int.toNat_natCast] at hi2
    rw [Int.zero_add]
    obtain ⟨k, hk, hs, hg, x3, rfl⟩ := st hi2
    obtain ⟨r1, r2, r3⟩ := plan_row h hi2 hk
    walk_at "dd"
    refine s_ixL ls_v r1 ?_
    walk_at "dd"
    refine s_ixTx (by omega) r3 ?_
    walk_at "dd"
    by_cases c : sgn rs i k = 45
    · rw [show (!decide (SX.S [sgn rs i k] = SX.S [45])) = false by rw [c]; simp]
      have low := h.ok.low hi2 hk c
      have hm : i < ms.length := by omega
      have a1 : L2.atI (ms.map fun x => D.int (x : Nat)) (i : Int) = some (.int (ms.getD i 0 : Nat)) := atI_mapD (f := fun x => D.int (x : Nat)) 0 hm
      have x1 : ms.getD i 0 ≤ 1 := one _ (by
        rw [List.getD_eq_getElem?_getD, List.getElem?_eq_getElem hm]
        exact List.getElem_mem _)
      walk_at "dd"
      refine s_ixL ls_v a1 ?_
      walk_at "dd"
      rw [← Int.natCast_add]
      refine hN _ _ ⟨rfl, by omega, fun _ => ⟨k + ms.getD i 0, by omega, (h.ok.next low hk c x1).1, hg.trans (goM_drop (by rw [List.getD_eq_getElem?_getD, List.getElem?_eq_getElem hm] <;> rfl) c), _, rfl⟩, fun z => by omega⟩
    · rw [show (!decide (SX.S [sgn rs i k] = SX.S [45])) = true by
        rw [Bool.not_eq_true', decide_eq_false_iff_not]
        intro z
        exact c (List.cons.inj (S_inj z)).1]
      have g := dig_of hs c
      obtain ⟨n, en⟩ : ∃ n, sgn rs i k = 48 + n := ⟨sgn rs i k - 48, by omega⟩
      have q := q n i (by rw [hg, goM_stop c, en, Nat.add_sub_cancel_left]) (by omega) (by omega)
      walk_at "dd"
      refine s_ixL ls_v r1 ?_
      walk_at "dd"
      refine s_ixTx (by omega) r3 ?_
      rw [en]
      walk_at "dd"
      refine c_intF (by omega) ?_
      walk_at "dd"
      exact q
  · rintro ρ S' ⟨rfl, _, _, no⟩
    rw [rngD_len, Int.toNat_natCast] at no
    exact absurd rfl no
theorem ok_class_countsK (T : Tx K mg) {rs : List (List Nat)} (h : Plan rs) {N M : Int} {b : Nat} (bN : Bd b N) (bM : Bd b M) (hb : b ≤ 600) (n0 : (rs.length : Int) - 1 ≤ N) (n1 : N ≤ SIZ) (m0 : 0 ≤ M) (m1 : M ≤ N) (q : ∀ z, Q (.v (.tup (cntD rs N M (stops rs)))) (S ++ [z])) : sFun (bs P w K mg base) 5 (.ref (He.ga K "class_counts")) ["marked", "plan", "size"] [] [.int M, planD rs, .int N] S Ex Q := by
  refine' call_d (B := bs P w K mg base) (ρ0 := [.sh (planD rs), .sh (.int N), .sh (.int M), .un, .un, .un]) 4 (Classical.choose_spec T.d_class_counts) sc_class_counts rfl (bm_key (ps := ["plan", "size", "marked"]) (Classical.choose_spec T.d_class_counts) 0 ["marked", "plan", "size"] [(true, 1), (true, 2), (true, 0)]  (by decide) rfl (by decide) (fun _ _ _ _ _ _ us ws l1 l2 => match us, ws, l1, l2 with | [], [_, _, _], _, _ => rfl)) (dss_cons (ds_expr (de_call rfl rfl ⟨T.g_check_plan, (Classical.choose_spec T.d_check_plan).kp⟩ (da_cons (dv 0) da_nil))) (dss_cons (ds_expr (de_call rfl rfl ⟨T.g_check_table, (Classical.choose_spec T.d_check_table).kp⟩ (da_cons (dv 0) (da_cons (dv 1) (da_cons (dv 2) da_nil))))) (dss_cons (ds_setLcP (i := 3) (own := [("number", 5)]) rfl (by decide) rfl rfl (fun _ h => sw_true (by rw [h]; rfl) (by rw [h]; rfl) rfl (by decide +kernel)) (di_range1 rfl T.f_range (da_cons (de_attr (dv 0)) da_nil)) (blkOk_by (N := ["plan", "size", "marked", "counts", "stop", "number"]) (sc := defScope s_class_counts) (by decide +kernel)) (dgn 5) dts_nil de_int) (dss_cons (ds_for rfl rfl (di_val (de_call rfl rfl ⟨T.g_stops_of, (Classical.choose_spec T.d_stops_of).kp⟩ (da_cons (de_attr (dv 0)) da_nil))) (dgn 4) (dss_one (ds_aug (dv 3) (de_ix (dv 4) de_int (fun _ _ => rfl)) (de_call rfl rfl ⟨T.g_stop_draws, (Classical.choose_spec T.d_stop_draws).kp⟩ (da_cons (dv 4) (da_cons (de_attr (dv 0)) (da_cons (dv 1) (da_cons (dv 2) da_nil)))))))) (dss_one (ds_ret (de_callT (T := "tuple") rfl T.f_tuple (by decide +kernel) (da_cons (dv 3) da_nil)))))))) ⟨rfl, rfl⟩ ?st ?_
  case st => exact rfl
  have most := h.ok.most
  have two := h.ok.two
  have c8 := cls_len rs
  have few := stops_few h
  walk_at "dd"
  refine (ok_check_plan T ?_).mono (Nat.le_of_ble_eq_true rfl)
  walk_at "dd"
  refine (ok_check_table T n0 n1 m0 m1 ?_).mono (Nat.le_of_ble_eq_true rfl)
  walk_at "dd"
  refine q_asgCP ?_
  walk_at "dd"
  refine sAttr_f isI_ins T.cl_Plan T.n_Plan_classes rfl ?_
  walk_at "dd"
  refine lc_pure (fun _ => true) (fun _ => .int 0) (by rw [rngD_len]; omega) (fun z hz X Y k1 k3 => ?_) ?_
  · replace k1 := k1 rfl
    walk_at "dd"
    exact k1
  have e0 : ((rngD 0 ((cls rs).length : Int).toNat).filter fun _ => true).map (fun _ => D.int 0) = cntD rs N M ((stops rs).take 0) := by
    unfold cntD
    rw [List.filter_eq_self.mpr fun _ _ => rfl, rngD, List.map_map, Int.toNat_natCast] <;> rfl
  rw [e0]
  clear e0
  walk_at "dd"
  refine sAttr_f isI_ins T.cl_Plan T.n_Plan_rows rfl ?_
  walk_at "dd"
  refine (ok_stops_of T h ?_).mono (Nat.le_of_ble_eq_true rfl)
  walk_at "dd"
  refine loop_inv (fun i ρ S' => S' = S ++ [.lst (cntD rs N M ((stops rs).take i))] ∧ i ≤ (stops rs).length ∧ ∃ x4 : Sl, ρ = [.sh (planD rs), .sh (.int N), .sh (.int M), .sh (.ptr S.length), x4, .un]) ⟨rfl, Nat.zero_le _, _, rfl⟩ ?_ ?_
  · rintro i x ρ S' Nx hx ⟨rfl, hi, x4, rfl⟩ hN
    rw [List.getElem?_map] at hx
    obtain ⟨s, hs, rfl⟩ := Option.map_eq_some_iff.mp hx
    have hlt := (List.getElem?_eq_some_iff.mp hs).1
    obtain ⟨so, sc⟩ := stop_mem h (List.mem_of_getElem? hs)
    have hat : (S ++ [Cell.lst (cntD rs N M ((stops rs).take i))])[S.length]? = some (.lst (cntD rs N M ((stops rs).take i))) := List.getElem?_concat_length
    have a2 : L2.atI [D.int s.m, .int s.k, .int s.c, .int s.w] (2 : Int) = some (.int s.c) := rfl
    have gt : L2.atI (cntD rs N M ((stops rs).take i)) (s.c : Int) = some (.int (lsum ((stops rs).take i) fun u => if u.c = s.c then drw (rs.length - 1) N M u else 0)) := L2.atI_nat (by
      unfold cntD
      rw [List.getElem?_map, List.getElem?_range sc] <;> rfl)
    have nxt : (cntD rs N M ((stops rs).take i)).set s.c (.int ((lsum ((stops rs).take i) fun u => if u.c = s.c then drw (rs.length - 1) N M u else 0) + drw (rs.length - 1) N M s)) = cntD rs N M ((stops rs).take (i + 1)) := by
      unfold cntD
      refine List.ext_getElem (by simp) fun k h1 h2 => ?_
      rw [List.getElem_set]
      simp only [List.getElem_map, List.getElem_range]
      rw [List.take_add_one, hs, show (some s : Option Stp).toList = [s] from rfl, lsum_app, lsum_cons, lsum_nil, Int.add_zero]
      by_cases c : s.c = k
      · rw [if_pos c, if_pos c, c]
      · rw [if_neg c, if_neg c, Int.add_zero]
    walk_at "dd"
    unfold dSubA
    dsimp only
    walk_at "dd"
    refine s_giL (ls_p hat) (by omega) gt ?_
    walk_at "dd"
    refine sAttr_f isI_ins T.cl_Plan T.n_Plan_longest rfl ?_
    walk_at "dd"
    rw [show (rs.length : Int) - 1 = ((rs.length - 1 : Nat) : Int) by omega]
    refine (ok_stop_draws T so (by omega) bN bM hb ?_).mono (Nat.le_of_ble_eq_true rfl)
    refine s_iadd ?_
    refine ⟨_, rfl, ?_⟩
    refine set_L hat (l := s.c) (by unfold L2.ixN cntD; rw [if_pos (by omega), if_pos (by rw [List.length_map, List.length_range]; omega)] <;> exact rfl) ?_
    rw [nxt, List.set_append_right _ _ (Nat.le_refl _), Nat.sub_self]
    exact hN _ _ ⟨rfl, hlt, _, rfl⟩
  · rintro ρ S' ⟨rfl, _, x4, rfl⟩
    rw [List.length_map, List.take_length]
    have hat : (S ++ [Cell.lst (cntD rs N M (stops rs))])[S.length]? = some (.lst (cntD rs N M (stops rs))) := List.getElem?_concat_length
    walk_at "dd"
    exact q _
theorem ok_up_toK (T : Tx K mg) {rs : List (List Nat)} (h : Plan rs) {N M : Int} {n b : Nat} (hn : n < (cls rs).length) (bN : Bd b N) (bM : Bd b M) (hb : b ≤ 600) (n0 : (rs.length : Int) - 1 ≤ N) (n1 : N ≤ SIZ) (m0 : 0 ≤ M) (m1 : M ≤ N) (q : Q (.v (.int (lsum (stops rs) fun s => if s.c ≤ n then drw (rs.length - 1) N M s else 0))) S) : sFun (bs P w K mg base) 5 (.ref (He.ga K "up_to")) ["size", "marked"] [planD rs, .int n] [.int N, .int M] S Ex Q := by
  refine' call_d (B := bs P w K mg base) (ρ0 := [.sh (planD rs), .sh (.int n), .sh (.int N), .sh (.int M)]) 4 (Classical.choose_spec T.d_up_to) sc_up_to rfl (bm_key (ps := ["plan", "number", "size", "marked"]) (Classical.choose_spec T.d_up_to) 2 ["size", "marked"] [(true, 0), (true, 1)]  (by decide) rfl (by decide) (fun _ _ _ _ _ _ us ws l1 l2 => match us, ws, l1, l2 with | [_, _], [_, _], _, _ => rfl)) (dss_cons (ds_expr (de_call rfl rfl ⟨T.g_check_plan, (Classical.choose_spec T.d_check_plan).kp⟩ (da_cons (dv 0) da_nil))) (dss_cons (ds_expr (de_call rfl rfl ⟨T.g_check_range, (Classical.choose_spec T.d_check_range).kp⟩ (da_cons (dv 1) (da_cons de_int (da_cons (de_bin (de_attr (dv 0)) de_int) da_nil))))) (dss_cons (ds_expr (de_call rfl rfl ⟨T.g_check_table, (Classical.choose_spec T.d_check_table).kp⟩ (da_cons (dv 0) (da_cons (dv 2) (da_cons (dv 3) da_nil))))) (dss_one (ds_ret (de_call rfl rfl ⟨T.g_count_stops, (Classical.choose_spec T.d_count_stops).kp⟩ (da_cons (de_call rfl rfl ⟨T.g_stops_up_to, (Classical.choose_spec T.d_stops_up_to).kp⟩ (da_cons (dv 0) (da_cons (dv 1) da_nil))) (da_cons (de_attr (dv 0)) (da_cons (dv 2) (da_cons (dv 3) da_nil)))))))))) ⟨rfl, rfl⟩ ?st ?_
  case st => exact rfl
  have most := h.ok.most
  have two := h.ok.two
  have few := stops_few h
  walk_at "dd"
  refine (ok_check_plan T ?_).mono (Nat.le_of_ble_eq_true rfl)
  walk_at "dd"
  refine sAttr_f isI_ins T.cl_Plan T.n_Plan_classes rfl ?_
  walk_at "dd"
  refine (ok_check_range T (by omega) (by omega) ?_).mono (Nat.le_of_ble_eq_true rfl)
  walk_at "dd"
  refine (ok_check_table T n0 n1 m0 m1 ?_).mono (Nat.le_of_ble_eq_true rfl)
  walk_at "dd"
  refine (ok_stops_up_to T h ?_).mono (Nat.le_of_ble_eq_true rfl)
  walk_at "dd"
  refine sAttr_f isI_ins T.cl_Plan T.n_Plan_longest rfl ?_
  walk_at "dd"
  rw [show (rs.length : Int) - 1 = ((rs.length - 1 : Nat) : Int) by omega]
  refine (ok_count_stops T (fun s hs => (stop_mem h (List.mem_filter.mp hs).1).1) (by have := List.length_filter_le (fun s : Stp => decide (s.c ≤ n)) (stops rs); omega) (by omega) bN bM hb ?_).mono (Nat.le_of_ble_eq_true rfl)
  rw [lsum_filter]
  have e : (lsum (stops rs) fun s => if decide (s.c ≤ n) = true then drw (rs.length - 1) N M s else 0) = lsum (stops rs) fun s => if s.c ≤ n then drw (rs.length - 1) N M s else 0 := lsum_congr fun s _ => by
    by_cases c : s.c ≤ n
    · rw [decide_eq_true c, if_pos rfl, if_pos c]
    · rw [decide_eq_false c, if_neg Bool.false_ne_true, if_neg c]
  rw [e]
  exact ⟨_, rfl, q⟩
end Toy

set_option Elab.async false
set_option linter.all false
set_option maxRecDepth 100000
set_option maxHeartbeats 8000000
namespace Toy
open PySem PySem.Spec PyProof.Rows L2 My Dt SX Pln
local macro_rules | `(tactic| walk_at "rg") => `(tactic| first
  | omega
  | ((refine And.intro ?_ (And.intro ?_ (And.intro ?_ ?_))) <;> omega))
local macro_rules | `(tactic| walk_at "ls") => `(tactic| first
  | with_reducible exact ls_v
  | with_reducible exact ls_b
  | ((with_reducible refine' ls_p ?hlp); (case hlp => with_reducible assumption)))
local macro_rules | `(tactic| walk_at "start") => `(tactic| ((simp only [startM, startS, List.map_cons, List.map_nil, List.length_cons, List.length_nil, List.cons_append, List.nil_append, Nat.reduceAdd, Nat.reduceSub, List.replicate_succ, List.replicate_zero]); exact rfl))
local macro_rules | `(tactic| walk_at "set") => `(tactic| first
  | ((dsimp only [Int.reduceToNat, List.set_cons_zero, List.set_cons_succ, VO.sl]); done)
  | ((dsimp only [Int.reduceToNat, List.set_cons_zero, List.set_cons_succ, VO.sl]); exact rfl)
  | exact rfl)
local macro_rules | `(tactic| walk_at "sz") => `(tactic| first
  | exact sz_of (Nat.le_of_ble_eq_true rfl)
  | (apply sz_of; simp only [List.length_cons, List.length_nil, List.length_append, List.length_map]; omega))
local macro_rules | `(tactic| walk_at "side") => `(tactic| first
  | with_reducible assumption
  | omega
  | exact ml (by omega) (by omega)
  | exact mr (by omega) (by omega)
  | exact dv (by omega) (by omega)
  | exact Bd.mulOk (by with_reducible assumption) (by with_reducible assumption) (by decide) (by decide) (by decide)
  | exact Bd.div (by with_reducible assumption) (by omega) (by decide) (by decide)
  | (show (0 : Int) < _; omega)
  | exact ⟨by decide, by decide, by decide⟩
  | decide
  | exact rfl)
local macro_rules | `(tactic| walk_at "st") => `(tactic| first
  | with_reducible refine q_seq ?_
  | with_reducible refine q_end ?_
  | with_reducible refine q_nil ?_
  | with_reducible refine q_asg ?_
  | with_reducible refine q_ret ?_
  | with_reducible refine q_if ?_
  | with_reducible refine q_expr ?_
  | with_reducible refine q_retN ?_
  | with_reducible refine q_sub ?_
  | with_reducible refine q_for ?_
  | with_reducible refine q_par ?_
  | with_reducible refine q_par3 ?_
  | with_reducible refine q_parV ?_
  | with_reducible refine q_parV3 ?_
  | with_reducible refine q_asgF ?_
  | with_reducible refine q_asgC ?_
  | ((with_reducible refine' q_frz ?ef ?_); (case ef => exact rfl))
  | ((with_reducible refine' q_app ?ea ?eb ?_); (case ea => exact rfl); (case eb => walk_at "slen"))
  | with_reducible refine q_brk ?_
  | with_reducible refine q_cnt ?_
  | with_reducible refine q_fldS ?_
  | with_reducible refine q_fldP ?_
  | with_reducible refine q_raise ?_
  | with_reducible refine q_try ?_)
local macro_rules | `(tactic| walk_at "slen") => `(tactic| first
  | with_reducible assumption
  | ((rw [sizeLine_eq]); (simp only [List.length_cons, List.length_nil, List.length_append, List.length_map]); omega))
local macro_rules | `(tactic| walk_at "sm") => `(tactic| first
  | with_reducible refine s_add ?_
  | with_reducible refine s_sub ?_
  | ((with_reducible refine' s_mul ?hm ?_); (case hm => walk_at "side"))
  | ((with_reducible refine' s_fdiv ?hm ?_); (case hm => walk_at "side"))
  | ((with_reducible refine' s_mod ?hm ?_); (case hm => walk_at "side"))
  | with_reducible refine s_neg ?_
  | ((with_reducible refine' s_pow ?hm ?_); (case hm => walk_at "side"))
  | ((with_reducible refine' s_ixL ?hl ?he ?_); (case hl => walk_at "ls"); (case he => exact rfl))
  | ((with_reducible refine' s_ixT ?he ?_); (case he => exact rfl))
  | ((with_reducible refine' set_L2 ?ha ?hb ?hc ?_); (case ha => with_reducible assumption); (case hb => exact rfl); (case hc => walk_at "set"))
  | with_reducible refine s_addB ?_
  | with_reducible refine s_lt ?_
  | with_reducible refine s_le ?_
  | with_reducible refine s_gt ?_
  | with_reducible refine s_ge ?_
  | with_reducible refine s_eq ?_
  | with_reducible refine s_ne ?_
  | with_reducible refine s_eqS ?_
  | with_reducible refine s_neS ?_
  | with_reducible refine s_isN ?_
  | with_reducible refine s_isNotN ?_
  | with_reducible refine t_bl ?_)
local macro_rules | `(tactic| walk_at "cl") => `(tactic| first
  | with_reducible refine c_int ?_
  | with_reducible refine c_intB ?_
  | with_reducible refine c_abs ?_
  | ((with_reducible refine' c_max ?hm ?_); (case hm => exact rfl))
  | ((with_reducible refine' c_min ?hm ?_); (case hm => exact rfl))
  | ((with_reducible refine' c_divmod ?hm ?_); (case hm => walk_at "side"))
  | ((with_reducible refine' c_len ?hm ?_); (case hm => walk_at "sq"))
  | ((with_reducible refine' c_list ?hm ?_); (case hm => walk_at "sq"))
  | ((with_reducible refine' c_tuple ?hm ?_); (case hm => walk_at "sq")))
local macro_rules | `(tactic| walk_at "sq") => `(tactic| first
  | exact sqL
  | exact sqT
  | exact sqB
  | exact sqP (by with_reducible assumption))
local macro_rules | `(tactic| walk_at "v") => `(tactic| first
  | ((with_reducible refine' v_sh ?ev ?_); (case ev => exact rfl))
  | ((with_reducible refine' v_ol ?ev ?_); (case ev => exact rfl))
  | ((with_reducible refine' v_slf ?ev ?_); (case ev => exact rfl))
  | with_reducible refine q_val ?_
  | ((with_reducible refine' q_walk ?ew ?_); (case ew => exact rfl))
  | ((with_reducible refine' q_rng1 ?ej ?ek ?_); (case ej => walk_at "rg"); (case ek => walk_at "rg"))
  | ((with_reducible refine' q_rng2 ?ej ?_); (case ej => walk_at "rg"))
  | with_reducible refine q_rngL ?_
  | with_reducible refine q_solc ?_
  | with_reducible refine q_sol0 ?_
  | ((with_reducible refine' q_gname ?eg ?_); (case eg => walk_at "set"))
  | ((with_reducible refine' n_set ?eg ?_); (case eg => walk_at "set"))
  | ((with_reducible refine' n_set2 ?eg ?_); (case eg => walk_at "set"))
  | ((with_reducible refine' n_set3 ?eg ?_); (case eg => walk_at "set"))
  | with_reducible refine q_two ?_
  | with_reducible refine q_three ?_
  | with_reducible refine q_vv ?_
  | with_reducible refine q_isS ?_
  | with_reducible refine q_isL ?_
  | with_reducible refine q_twoV ?_
  | with_reducible refine q_threeV ?_
  | with_reducible refine q_bl ?_
  | with_reducible refine q_oint ?_
  | ((with_reducible refine' q_gtup ?el ?_); (case el => exact rfl))
  | with_reducible refine q_gcons ?_
  | with_reducible refine q_gnil ?_
  | with_reducible refine i_t ?_
  | with_reducible refine i_f ?_
  | with_reducible refine i_nt ?_
  | with_reducible refine i_nf ?_
  | ((with_reducible refine' n_t ?en ?_); (case en => exact rfl))
  | ((with_reducible refine' n_f ?en ?_); (case en => exact rfl))
  | ((with_reducible refine' nn_t ?en ?_); (case en => exact rfl))
  | ((with_reducible refine' nn_f ?en ?_); (case en => exact rfl))
  | with_reducible refine And.intro (by walk_at "sz") ?_)
local macro_rules | `(tactic| walk_at "d") => `(tactic| first
  | walk_at "v"
  | walk_at "st"
  | walk_at "sm"
  | walk_at "cl"
  | walk_at "at")
local macro_rules | `(tactic| walk_at "dd") => `(tactic| repeat walk_at "d")
local macro_rules | `(tactic| walk_at "tx") => `(tactic| simp only [l_dash, l_dot, l_nil, l_space, l_figs, l_signs])

variable {P : Program} {w : World} {K : PySem.W.Frag} {mg : Str → Option Value} {base : Heap} {S : Sto} {Ex : XS} {Q : QO}

/-- marks of the rows -/
def mkC (cs : List Nat) (r : Nat) : Nat := if r ∈ cs then 1 else 0
theorem mkC_le (cs : List Nat) (r : Nat) : mkC cs r ≤ 1 := by
  unfold mkC
  split <;> omega
theorem mkC_sum {N : Nat} {cs : List Nat} (nd : cs.Nodup) (lt : ∀ r ∈ cs, r < N) : (lsum (List.range N) fun r => (mkC cs r : Int)) = cs.length := by
  have a := lsum_in (N := N) (h := fun _ => (1 : Int)) nd lt
  have e : (lsum (List.range N) fun r => (mkC cs r : Int)) = lsum (List.range N) fun r => if r ∈ cs then (1 : Int) else 0 := lsum_congr fun r _ => by
    unfold mkC
    split <;> rfl
  rw [e, a]
  clear a e nd lt
  induction cs with
  | nil => rfl
  | cons c cs ih => rw [lsum_cons, ih, List.length_cons]; omega
/-- the counts of the first draws -/
def ctD (rs : List (List Nat)) (cs : List Nat) (xs : List (List Nat)) : List Int := (List.range (cls rs).length).map fun c => lsum xs fun o => if (goM rs 0 0 (o.map (mkC cs))).1 = c then 1 else 0
def lkD (rs : List (List Nat)) (cs : List Nat) (xs : List (List Nat)) : Int := lsum xs fun o => ((goM rs 0 0 (o.map (mkC cs))).2 : Int)
theorem ctD_all {rs : List (List Nat)} (h : Plan rs) {N : Nat} {cs : List Nat} (nd : cs.Nodup) (lt : ∀ r ∈ cs, r < N) : ctD rs cs (dr N (rs.length - 1)) = cnN rs N cs.length := by
  unfold ctD cnN
  refine List.map_congr_left fun c _ => ?_
  rw [dr_sum (mkC_le cs) (mkC_sum nd lt).symm (rs.length - 1) fun ms => if (goM rs 0 0 ms).1 = c then 1 else 0]
  have a := marks_stops h.ok N cs.length (fun x _ => if x = c then 1 else 0)
  have e1 : (lsum (aM (rs.length - 1)) fun ms => wgt (cs.length : Int) ((N : Int) - cs.length) ms * if (goM rs 0 0 ms).1 = c then 1 else 0) = lsum (aM (rs.length - 1)) fun ms => (if (goM rs 0 0 ms).1 = c then 1 else 0) * wgt (cs.length : Int) ((N : Int) - cs.length) ms := lsum_congr fun ms _ => Int.mul_comm _ _
  rw [e1, a]
  refine lsum_congr fun s _ => ?_
  unfold stV
  dsimp only
  split
  · exact Int.one_mul _
  · exact Int.zero_mul _
theorem lkD_all {rs : List (List Nat)} (h : Plan rs) {N : Nat} {cs : List Nat} (nd : cs.Nodup) (lt : ∀ r ∈ cs, r < N) : lkD rs cs (dr N (rs.length - 1)) = lsum (stops rs) fun s => s.m * drw (rs.length - 1) N cs.length s := by
  unfold lkD
  rw [dr_sum (mkC_le cs) (mkC_sum nd lt).symm (rs.length - 1) fun ms => ((goM rs 0 0 ms).2 : Int)]
  have e1 : (lsum (aM (rs.length - 1)) fun ms => wgt (cs.length : Int) ((N : Int) - cs.length) ms * ((goM rs 0 0 ms).2 : Int)) = lsum (aM (rs.length - 1)) fun ms => ((goM rs 0 0 ms).2 : Int) * wgt (cs.length : Int) ((N : Int) - cs.length) ms := lsum_congr fun ms _ => Int.mul_comm _ _
  rw [e1, marks_stops h.ok N cs.length (fun _ m => (m : Int))]
  rfl
theorem seqI {u L : Nat} (h : u < L) : seqIndex? (u : Int) L = some u := by
  unfold seqIndex?
  dsimp only
  rw [if_neg (show ¬ (u : Int) < 0 by omega)]
  have : (decide (0 ≤ (u : Int)) && decide ((u : Int) < (L : Nat))) = true := by
    rw [decide_eq_true (by omega), decide_eq_true (by omega)] <;> rfl
  rw [this, if_pos rfl, Int.toNat_natCast]
theorem erase_perm : ∀ {l : List Nat} {i : Nat} (h : i < l.length), (l[i] :: l.eraseIdx i).Perm l
  | x :: l, 0, _ => .refl _
  | x :: l, i + 1, h => by
    have hh : i < l.length := by simpa using h
    have ih := erase_perm (l := l) (i := i) hh
    show (l[i] :: x :: l.eraseIdx i).Perm (x :: l)
    exact (List.Perm.swap x l[i] _).trans (ih.cons x)
theorem eraseIdx_map' {α β : Type} (f : α → β) : ∀ (l : List α) (i : Nat), (l.eraseIdx i).map f = (l.map f).eraseIdx i
  | [], _ => rfl
  | x :: l, 0 => rfl
  | x :: l, i + 1 => by
    show f x :: (l.eraseIdx i).map f = f x :: (l.map f).eraseIdx i
    rw [eraseIdx_map' f l i]
theorem ok_right (T : Tx K mg) {n : Nat} (h : Bag S n) (q : ∀ S', Q (.v (.bl true)) S') : sFun (bs P w K mg base) 12 (.ref (He.ga K "_law_right")) [] [.ptr n] [] S Ex Q := by
  refine' call_d (B := bs P w K mg base) 11 (Classical.choose_spec T.d_law_right) sc_law_right rfl (bm_all (ps := ["_law_bag_here"]) (Classical.choose_spec T.d_law_right) (fun _ _ _ _ _ _ us hl => match us, hl with | [_], _ => rfl)) (dss_cons (dst 1 (de_bin de_int (de_call rfl rfl ⟨T.g_law_take, (Classical.choose_spec T.d_law_take).kp⟩ (da_cons (dv 0) (da_cons de_int da_nil))))) (dss_cons (dst 2 (de_call rfl rfl ⟨T.g_law_rows, (Classical.choose_spec T.d_law_rows).kp⟩ (da_cons (dv 0) (da_cons (dv 1) (da_cons de_int da_nil))))) (dss_cons (ds_asgS (de_tup (da_cons (de_cm rfl (de_cls rfl T.g_Plan) (da_cons (de_bm PySem.F.plainAttrs_str PySem.F.slot_str_join PySem.F.type_str_join de_str (da_cons (dv 2) da_nil)) da_nil)) (da_cons (de_bin (dv 1) (de_call rfl rfl ⟨T.g_law_take, (Classical.choose_spec T.d_law_take).kp⟩ (da_cons (dv 0) (da_cons de_int da_nil)))) da_nil))) (dg_tup (n := 2) rfl (dgs_cons (dgn 3) (dgs_cons (dgn 4) dgs_nil))) (fun env h => by cases env; cases h; rfl)) (dss_cons (ds_asgS (de_tup (da_cons (de_lstRg rfl rfl T.f_list rfl T.f_range (dv 4)) (da_cons (de_lstP da_nil) da_nil))) (dg_tup (n := 2) rfl (dgs_cons (dgn 5) (dgs_cons (dgn 6) dgs_nil))) (fun env h => by cases env; cases h; rfl)) (dss_cons (ds_for rfl rfl (di_range1 rfl T.f_range (da_cons (de_call rfl rfl ⟨T.g_law_take, (Classical.choose_spec T.d_law_take).kp⟩ (da_cons (dv 0) (da_cons (de_bin (dv 4) de_int) da_nil))) da_nil)) (dgn 7) (dss_one (ds_expr (de_bm PySem.F.plainAttrs_list PySem.F.slot_list_append PySem.F.type_list_append (dv 6) (da_cons (de_bm PySem.F.plainAttrs_list PySem.F.slot_list_pop PySem.F.type_list_pop (dv 5) (da_cons (de_call rfl rfl ⟨T.g_law_take, (Classical.choose_spec T.d_law_take).kp⟩ (da_cons (dv 0) (da_cons (de_callB (id := "len") rfl T.f_len (by decide +kernel) (da_cons (dv 5) da_nil)) da_nil))) da_nil)) da_nil))))) (dss_cons (ds_asgS (de_tup (da_cons (de_call rfl rfl ⟨T.g_law_all_draws, (Classical.choose_spec T.d_law_all_draws).kp⟩ (da_cons (dv 4) (da_cons (dv 1) da_nil))) (da_cons (de_bin (de_lstV (da_cons de_int da_nil)) (de_call rfl rfl ⟨T.g_law_many, (Classical.choose_spec T.d_law_many).kp⟩ (da_cons (dv 2) da_nil))) (da_cons de_int da_nil)))) (dg_tup (n := 3) rfl (dgs_cons (dgn 8) (dgs_cons (dgn 9) (dgs_cons (dgn 10) dgs_nil)))) (fun env h => by cases env; cases h; rfl)) (dss_cons (ds_forS rfl rfl (dis_val (dv 8)) (dgn 11) (dss_cons (ds_asg (de_call rfl rfl ⟨T.g_law_run, (Classical.choose_spec T.d_law_run).kp⟩ (da_cons (dv 2) (da_cons (DF.de (df_lc (own := [("_law_row", 18)]) rfl (by decide) (di_val (dv 11)) (blkOk_by (N := ["_law_bag_here", "_law_tall", "_law_told", "_law_scheme", "_law_wide", "_law_rows_left", "_law_chosen", "_law_step", "_law_every", "_law_counts", "_law_looked", "_law_one", "_law_part", "_law_seen", "_law_ones", "_law_told_counts", "_law_sums", "_law_mean", "_law_row", "_law_count", "_law_k"]) (sc := defScope s_law_right) (by decide +kernel)) (dgn 18) dts_nil (de_callT (T := "int") rfl T.f_int (by decide +kernel) (da_cons (de_cmp (dv 18) (dv 6)) da_nil)))) da_nil))) (dg_tup (n := 2) rfl (dgs_cons (dgn 12) (dgs_cons (dgn 13) dgs_nil)))) (dss_cons (ds_sub (dv 9) (dv 12) (de_bin (de_ix (dv 9) (dv 12) (fun _ _ => rfl)) de_int)) (dss_one (dst 10 (de_bin (dv 10) (dv 13))))))) (dss_cons (dst 14 (de_callB (id := "len") rfl T.f_len (by decide +kernel) (da_cons (dv 6) da_nil))) (dss_cons (dst 15 (de_call rfl rfl ⟨T.g_class_counts, (Classical.choose_spec T.d_class_counts).kp⟩ (da_cons (dv 3) (da_cons (dv 4) (da_cons (dv 14) da_nil))))) (dss_cons (ds_if (DW.dt (dw_or (dt_not (dt_val (de_callB (id := "isinstance") rfl T.f_isinstance (by decide +kernel) (da_cons (dv 15) (da_cons (de_ty (n := "tuple") rfl T.f_tuple (by decide +kernel)) da_nil))))) (dw_or1 (dt_not (dt_val (de_callB (id := "all") rfl T.f_all (by decide +kernel) (da_cons (DF.de (df_lc (own := [("_law_count", 19)]) rfl (by decide) (di_val (dv 15)) (blkOk_by (N := ["_law_bag_here", "_law_tall", "_law_told", "_law_scheme", "_law_wide", "_law_rows_left", "_law_chosen", "_law_step", "_law_every", "_law_counts", "_law_looked", "_law_one", "_law_part", "_law_seen", "_law_ones", "_law_told_counts", "_law_sums", "_law_mean", "_law_row", "_law_count", "_law_k"]) (sc := defScope s_law_right) (by decide +kernel)) (dgn 19) dts_nil (de_call rfl rfl ⟨T.g_law_int, (Classical.choose_spec T.d_law_int).kp⟩ (da_cons (dv 19) da_nil)))) da_nil))))))) (dss_one (ds_ret de_bl)) dss_nil) (dss_cons (ds_if (DW.dt (dw_or (dt_cmp (de_callT (T := "list") rfl T.f_list (by decide +kernel) (da_cons (dv 15) da_nil)) (dv 9)) (dw_or1 (dt_cmp (de_callk0 (ks := ["marked", "plan", "size"]) rfl rfl ⟨T.g_class_counts, (Classical.choose_spec T.d_class_counts).kp⟩ (dk_cons (dv 14) (dk_cons (dv 3) (dk_cons (dv 4) dk_nil)))) (dv 15))))) (dss_one (ds_ret de_bl)) dss_nil) (dss_cons (ds_setLc (i := 16) (own := [("_law_k", 20)]) rfl (by decide) rfl rfl (fun _ h => sw_true (by rw [h]; rfl) (by rw [h]; rfl) rfl (by decide +kernel)) (di_range1 rfl T.f_range (da_cons (de_callB (id := "len") rfl T.f_len (by decide +kernel) (da_cons (dv 9) da_nil)) da_nil)) (blkOk_by (N := ["_law_bag_here", "_law_tall", "_law_told", "_law_scheme", "_law_wide", "_law_rows_left", "_law_chosen", "_law_step", "_law_every", "_law_counts", "_law_looked", "_law_one", "_law_part", "_law_seen", "_law_ones", "_law_told_counts", "_law_sums", "_law_mean", "_law_row", "_law_count", "_law_k"]) (sc := defScope s_law_right) (by decide +kernel)) (dgn 20) dts_nil (de_call rfl rfl ⟨T.g_up_to, (Classical.choose_spec T.d_up_to).kp⟩ (da_cons (dv 3) (da_cons (dv 20) (da_cons (dv 4) (da_cons (dv 14) da_nil)))))) (dss_frz 16 (dss_cons (ds_if (DW.dt (dw_or (dt_not (dt_val (de_callB (id := "all") rfl T.f_all (by decide +kernel) (da_cons (DF.de (df_lc (own := [("_law_count", 19)]) rfl (by decide) (di_val (de_bin (dv 16) (de_lstV (da_cons (de_call rfl rfl ⟨T.g_draws, (Classical.choose_spec T.d_draws).kp⟩ (da_cons (dv 3) (da_cons (dv 4) da_nil))) da_nil)))) (blkOk_by (N := ["_law_bag_here", "_law_tall", "_law_told", "_law_scheme", "_law_wide", "_law_rows_left", "_law_chosen", "_law_step", "_law_every", "_law_counts", "_law_looked", "_law_one", "_law_part", "_law_seen", "_law_ones", "_law_told_counts", "_law_sums", "_law_mean", "_law_row", "_law_count", "_law_k"]) (sc := defScope s_law_right) (by decide +kernel)) (dgn 19) dts_nil (de_call rfl rfl ⟨T.g_law_int, (Classical.choose_spec T.d_law_int).kp⟩ (da_cons (dv 19) da_nil)))) da_nil)))) (dw_or1 (dt_cmp (de_call rfl rfl ⟨T.g_draws, (Classical.choose_spec T.d_draws).kp⟩ (da_cons (dv 3) (da_cons (dv 4) da_nil))) (de_callB (id := "len") rfl T.f_len (by decide +kernel) (da_cons (dv 8) da_nil)))))) (dss_one (ds_ret de_bl)) dss_nil) (dss_cons (ds_if (dt_cmp (dv 16) (DF.de (df_lc (own := [("_law_k", 20)]) rfl (by decide) (di_range1 rfl T.f_range (da_cons (de_callB (id := "len") rfl T.f_len (by decide +kernel) (da_cons (dv 9) da_nil)) da_nil)) (blkOk_by (N := ["_law_bag_here", "_law_tall", "_law_told", "_law_scheme", "_law_wide", "_law_rows_left", "_law_chosen", "_law_step", "_law_every", "_law_counts", "_law_looked", "_law_one", "_law_part", "_law_seen", "_law_ones", "_law_told_counts", "_law_sums", "_law_mean", "_law_row", "_law_count", "_law_k"]) (sc := defScope s_law_right) (by decide +kernel)) (dgn 20) dts_nil (de_callB (id := "sum") rfl T.f_sum (by decide +kernel) (da_cons (de_sl (dv 9) do_no (do_some (de_bin (dv 20) de_int))) da_nil))))) (dss_one (ds_ret de_bl)) dss_nil) (dss_cons (dst 17 (de_call rfl rfl ⟨T.g_mean_looked, (Classical.choose_spec T.d_mean_looked).kp⟩ (da_cons (dv 3) (da_cons (dv 4) (da_cons (dv 14) da_nil))))) (dss_one (ds_ret (de_and (de_cmp (de_bin (de_attr (dv 17)) (de_callB (id := "len") rfl T.f_len (by decide +kernel) (da_cons (dv 8) da_nil))) (de_bin (dv 10) (de_attr (dv 17)))) (de_one (de_cmp (de_callk (ks := ["size", "marked"]) rfl rfl ⟨T.g_up_to, (Classical.choose_spec T.d_up_to).kp⟩ (da_cons (dv 3) (da_cons de_int da_nil)) (dk_cons (dv 4) (dk_cons (dv 14) dk_nil))) (de_ix (dv 9) de_int (fun _ _ => rfl))))))))))))))))))))))) ⟨rfl, rfl⟩ ?st ?_
  case st => walk_at "start"
  walk_at "dd"
  refine (ok_take T h (by decide) (by decide) fun v S1 v0 v1 b1 x1 => ?_).mono (Nat.le_of_ble_eq_true rfl)
  obtain ⟨t0, rfl⟩ := Int.eq_ofNat_of_zero_le v0
  walk_at "dd"
  rw [show (1 : Int) + (t0 : Nat) = ((t0 + 1 : Nat) : Int) by omega]
  refine (ok_rows T (L := t0 + 1) (M := 8) b1 (by omega) (by omega) (by decide) (by decide) fun rs S2 h2 hl b2 x2 => ?_).mono (Nat.le_of_ble_eq_true rfl)
  have two := h2.ok.two
  have many := h2.ok.many
  have c8 := cls_len rs
  walk_at "dd"
  unfold aCons
  refine ⟨"Plan", _, rfl, T.cr_Plan, T.cm_Plan_read, ?_⟩
  walk_at "dd"
  refine m_join (ls := rs) (sep := [32]) sqL (joinP rs h2) ?_
  walk_at "dd"
  refine (ok_read T h2 ?_).mono (Nat.le_of_ble_eq_true rfl)
  walk_at "dd"
  refine (ok_take T b2 (by decide) (by decide) fun v S3 v0 v1 b3 x3 => ?_).mono (Nat.le_of_ble_eq_true rfl)
  obtain ⟨u, rfl⟩ := Int.eq_ofNat_of_zero_le v0
  obtain ⟨N, eN⟩ : ∃ N : Nat, N = t0 + 1 + u := ⟨_, rfl⟩
  walk_at "dd"
  rw [show ((t0 + 1 : Nat) : Int) + (u : Int) = (N : Int) by omega]
  have n0 : (rs.length : Int) - 1 ≤ N := by omega
  have n6 : N ≤ 6 := by omega
  have bN : Bd 7 (N : Int) := by unfold Bd; omega
  have n1 : (N : Int) ≤ SIZ := by
    have : (14 : Int) ≤ SIZ := by decide
    omega
  clear x1 x2 x3 b1 b2 h
  walk_at "dd"
  refine ⟨by omega, by omega, .inr ?_⟩
  walk_at "dd"
  have ea : ∃ a, a = S3.length := ⟨_, rfl⟩
  obtain ⟨a, ea⟩ := ea
  have b5 : Bag (S3 ++ [Cell.lst (rngD 0 (N : Int).toNat)] ++ [Cell.lst []]) n := b3.add.add
  have na : n < a := by rw [ea]; exact b3.lt
  have g1 : (S3 ++ [Cell.lst (rngD 0 (N : Int).toNat)] ++ [Cell.lst []])[a]? = some (.lst ((oi (List.range N)).map .int)) := by
    rw [ea, List.getElem?_append_left (by rw [List.length_append]; simp), List.getElem?_concat_length]
    unfold oi rngD
    rw [Int.toNat_natCast, List.map_map]
    refine congrArg some (congrArg Cell.lst (List.map_congr_left fun k _ => ?_))
    rw [Int.zero_add] <;> rfl
  have g2 : (S3 ++ [Cell.lst (rngD 0 (N : Int).toNat)] ++ [Cell.lst []])[a + 1]? = some (.lst ((oi []).map .int)) := by
    rw [show a + 1 = (S3 ++ [Cell.lst (rngD 0 (N : Int).toNat)]).length by rw [List.length_append, ea] <;> rfl, List.getElem?_concat_length] <;> rfl
  rw [show (S3 ++ [Cell.lst (rngD 0 (N : Int).toNat)]).length = a + 1 by rw [List.length_append, ea] <;> rfl, ← ea]
  generalize S3 ++ [Cell.lst (rngD 0 (N : Int).toNat)] ++ [Cell.lst []] = S5 at b5 g1 g2 ⊢
  clear ea b3
  refine (ok_take T b5 (by omega) (by omega) fun k S6 k0 k1 b6 x6 => ?_).mono (Nat.le_of_ble_eq_true rfl)
  replace g1 := (x6.at_ _ (by omega)).trans g1
  replace g2 := (x6.at_ _ (by omega)).trans g2
  obtain ⟨k, rfl⟩ := Int.eq_ofNat_of_zero_le k0
  clear x6 b5
  walk_at "dd"
  refine loop_inv (fun i ρ S' => i ≤ k ∧ ∃ (l1 l2 : List Nat) (x7 : Sl), l2.length = i ∧ (l2 ++ l1).Perm (List.range N) ∧ Bag S' n ∧ S'[a]? = some (.lst ((oi l1).map .int)) ∧ S'[a + 1]? = some (.lst ((oi l2).map .int)) ∧ ρ = [.sh (.ptr n), .sh (.int (t0 + 1 : Nat)), .sh (.lst (rs.map tx)), .sh (planD rs), .sh (.int N), .sh (.ptr a), .sh (.ptr (a + 1)), x7, .un, .un, .un, .un, .un, .un, .un, .un, .un, .un, .un, .un, .un]) ⟨Nat.zero_le _, List.range N, [], _, rfl, .refl _, b6, g1, g2, rfl⟩ ?_ ?_
  · rintro i x ρ S' Nx hx ⟨hi, l1, l2, x7, e2, pm, b7, g1, g2, rfl⟩ hN
    obtain ⟨hi2, rfl⟩ := rngD_at hx
    rw [Int.zero_add]
    have ll := pm.length_eq
    rw [List.length_append, List.length_range] at ll
    have ol1 : (oi l1).length = l1.length := List.length_map ..
    walk_at "dd"
    refine ⟨.inl ⟨rfl, _, g2⟩, ?_⟩
    walk_at "dd"
    refine ⟨.inl ⟨rfl, _, g1⟩, ?_⟩
    walk_at "dd"
    rw [List.length_map, ol1]
    refine (ok_take T b7 (by omega) (by omega) fun u8 S8 u0 u1 b8 x8 => ?_).mono (Nat.le_of_ble_eq_true rfl)
    replace g1 := (x8.at_ _ (by omega)).trans g1
    replace g2 := (x8.at_ _ (by omega)).trans g2
    clear x8 b7
    obtain ⟨u8, rfl⟩ := Int.eq_ofNat_of_zero_le u0
    have ul : u8 < l1.length := by omega
    walk_at "dd"
    refine m_popAt (l := u8) (dd := .int (l1[u8] : Nat)) g1 (by omega) (by omega) ?_ ?_ ?_
    · rw [List.length_map, ol1]
      exact seqI ul
    · unfold oi
      rw [List.getElem?_map, List.getElem?_map, List.getElem?_eq_getElem ul] <;> rfl
    have eE : ((oi l1).map D.int).eraseIdx u8 = (oi (l1.eraseIdx u8)).map D.int := by
      unfold oi
      rw [← eraseIdx_map', ← eraseIdx_map']
    rw [eE]
    have a1 : a < S8.length := (List.getElem?_eq_some_iff.mp g1).1
    have a2 : a + 1 < S8.length := (List.getElem?_eq_some_iff.mp g2).1
    have g1' : (S8.set a (.lst ((oi (l1.eraseIdx u8)).map .int)))[a]? = some (.lst ((oi (l1.eraseIdx u8)).map .int)) := List.getElem?_set_self a1
    have g2' : (S8.set a (.lst ((oi (l1.eraseIdx u8)).map .int)))[a + 1]? = some (.lst ((oi l2).map .int)) := by rw [List.getElem?_set_ne (by omega)]; exact g2
    have b9 : Bag (S8.set a (.lst ((oi (l1.eraseIdx u8)).map .int))) n := by
      obtain ⟨y1, y2, y3, y4, y5⟩ := b8
      exact ⟨y1, y2, y3, by rw [List.getElem?_set_ne (by omega)]; exact y4, y5⟩
    have a3 : a + 1 < (S8.set a (.lst ((oi (l1.eraseIdx u8)).map .int))).length := by rw [List.length_set]; exact a2
    generalize S8.set a (.lst ((oi (l1.eraseIdx u8)).map .int)) = S9 at g1' g2' b9 a3 ⊢
    walk_at "dd"
    refine (show sCall _ _ (.builtin "list.append") [] [.v (.ptr (a + 1)), .v (.int (l1[u8] : Nat))] [] _ _ _ from ?_)
    refine m_append g2' (by rw [sizeLine_eq, List.length_map]; unfold oi; rw [List.length_map]; omega) ?_
    have eA : (oi l2).map D.int ++ [.int (l1[u8] : Nat)] = (oi (l2 ++ [l1[u8]])).map .int := by
      unfold oi
      rw [List.map_append, List.map_append] <;> rfl
    rw [eA]
    refine hN _ _ ⟨by omega, l1.eraseIdx u8, l2 ++ [l1[u8]], _, by rw [List.length_append, e2] <;> rfl, ?_, ?_, ?_, ?_, rfl⟩
    · rw [List.append_assoc]
      exact (List.Perm.append_left l2 (erase_perm ul)).trans pm
    · obtain ⟨y1, y2, y3, y4, y5⟩ := b9
      exact ⟨y1, y2, y3, by rw [List.getElem?_set_ne (by omega)]; exact y4, y5⟩
    · rw [List.getElem?_set_ne (by omega)]
      exact g1'
    · exact List.getElem?_set_self a3
  · rintro ρ S' ⟨_, l1, cs, x7, e2, pm, b7, g1, g2, rfl⟩
    rw [rngD_len, Int.toNat_natCast] at e2
    have nd : cs.Nodup := (List.nodup_append.mp (pm.nodup_iff.mpr List.nodup_range)).1
    have lt : ∀ r ∈ cs, r < N := fun r hr => List.mem_range.mp (pm.mem_iff.mp (List.mem_append_left _ hr))
    have cl : cs.length ≤ N := by omega
    have bM : Bd 7 (cs.length : Int) := by unfold Bd; omega
    have a1S := (List.getElem?_eq_some_iff.mp g2).1
    clear g1 pm b7
    walk_at "dd"
    refine (ok_all_draws T n6 (by omega) fun S8 z p e8 pS ep => ?_).mono (Nat.le_of_ble_eq_true rfl)
    rw [show t0 + 1 = rs.length - 1 by omega] at ep
    replace g2 : S8[a + 1]? = some (.lst ((oi cs).map .int)) := by
      rw [e8, List.getElem?_append_left (List.getElem?_eq_some_iff.mp g2).1]
      exact g2
    have pa : a + 1 < p := Nat.lt_of_lt_of_le a1S pS
    clear e8 pS
    walk_at "dd"
    refine (ok_many T (plan_rl h2) h2.ok.most ?_).mono (Nat.le_of_ble_eq_true rfl)
    refine s_rep ls_v (by omega) (by omega) (by rw [sizeLine_eq]; simp only [List.length_cons, List.length_nil]; omega) (.inr ?_)
    have e0 : (List.replicate ((cls rs).length : Int).toNat [D.int 0]).flatten = (ctD rs cs ((dr N (rs.length - 1)).take 0)).map .int := by
      unfold ctD
      rw [Int.toNat_natCast, rep_flat, List.map_map]
      refine List.ext_getElem (by simp) fun k h1 h2 => ?_
      rw [List.getElem_replicate, List.getElem_map] <;> rfl
    rw [e0]
    clear e0
    obtain ⟨pc, epc⟩ : ∃ pc, pc = S8.length := ⟨_, rfl⟩
    have plt := (List.getElem?_eq_some_iff.mp ep).1
    have pcp : pc ≠ p := by omega
    have pca : pc ≠ a + 1 := by omega
    have ep9 : ∀ c : Cell, (S8 ++ [c])[p]? = some (.lst ((dr N (rs.length - 1)).map mkD)) := fun c => by rw [List.getElem?_append_left plt]; exact ep
    have g29 : ∀ c : Cell, (S8 ++ [c])[a + 1]? = some (.lst ((oi cs).map .int)) := fun c => by rw [List.getElem?_append_left (by omega)]; exact g2
    have gc : ∀ c : Cell, (S8 ++ [c])[pc]? = some c := fun c => by rw [epc]; exact List.getElem?_concat_length
    rw [← epc]
    have ep9 := ep9 (.lst ((ctD rs cs ((dr N (rs.length - 1)).take 0)).map .int))
    have g29 := g29 (.lst ((ctD rs cs ((dr N (rs.length - 1)).take 0)).map .int))
    have gc := gc (.lst ((ctD rs cs ((dr N (rs.length - 1)).take 0)).map .int))
    generalize S8 ++ [Cell.lst ((ctD rs cs ((dr N (rs.length - 1)).take 0)).map .int)] = S9 at ep9 g29 gc ⊢
    clear ep g2 plt epc a1S
    walk_at "dd"
    unfold dForS
    walk_at "dd"
    refine ⟨p, (dr N (rs.length - 1)).map mkD, rfl, ep9, ?_⟩
    refine loop_invS (fun j ρ S' => j ≤ (dr N (rs.length - 1)).length ∧ ∃ x11 x12 x13 : Sl, S'[p]? = some (.lst ((dr N (rs.length - 1)).map mkD)) ∧ S'[a + 1]? = some (.lst ((oi cs).map .int)) ∧ S'[pc]? = some (.lst ((ctD rs cs ((dr N (rs.length - 1)).take j)).map .int)) ∧ ρ = [.sh (.ptr n), .sh (.int (t0 + 1 : Nat)), .sh (.lst (rs.map tx)), .sh (planD rs), .sh (.int N), .sh (.ptr a), .sh (.ptr (a + 1)), x7, .sh (.ptr p), .sh (.ptr pc), .sh (.int (lkD rs cs ((dr N (rs.length - 1)).take j))), x11, x12, x13, .un, .un, .un, .un, .un, .un, .un]) ⟨Nat.zero_le _, _, _, _, ep9, g29, gc, rfl⟩ ?_ ?_ ?_
    · rintro j ρ S' ⟨_, y1, y2, y3, e2, _⟩
      exact e2
    · rintro j x ρ S' Nx2 hx2 ⟨hj, x11, x12, x13, e1, e2, e3, rfl⟩ hN2
      rw [List.getElem?_map] at hx2
      obtain ⟨o, ho, rfl⟩ := Option.map_eq_some_iff.mp hx2
      have hj2 := (List.getElem?_eq_some_iff.mp ho).1
      obtain ⟨ol, ond, olt⟩ := dr_mem (List.mem_of_getElem? ho)
      walk_at "dd"
      refine lc_pure (fun _ => true) (fun d => match d with | .int r => .int (mkC cs r.toNat : Nat) | _ => .non) (by rw [List.length_map]; omega) (fun z hz X Y k1 k3 => ?_) ?_
      · obtain ⟨r, hr, rfl⟩ := List.mem_map.mp hz
        replace k1 : X (.v (.int (mkC cs r : Nat))) _ := k1 rfl
        walk_at "dd"
        refine s_inI (ls_p e2) ?_
        rw [show decide ((r : Int) ∈ oi cs) = decide (r ∈ cs) from decide_eq_decide.mpr oi_mem]
        walk_at "dd"
        rw [show (if decide (r ∈ cs) = true then (1 : Int) else 0) = (mkC cs r : Nat) by
          unfold mkC
          by_cases z : r ∈ cs
          · rw [decide_eq_true z, if_pos rfl, if_pos z] <;> rfl
          · rw [decide_eq_false z, if_neg Bool.false_ne_true, if_neg z] <;> rfl]
        exact k1
      have em : ((o.map fun x => D.int (x : Nat)).filter fun _ => true).map (fun d => match d with | .int r => D.int (mkC cs r.toNat : Nat) | _ => .non) = ((o.map (mkC cs)).map fun x => D.int (x : Nat)) := by
        rw [List.filter_eq_self.mpr fun _ _ => rfl, List.map_map, List.map_map]
        exact List.map_congr_left fun r _ => rfl
      rw [em]
      have rc := run_cls h2 (ms := o.map (mkC cs)) (m := 0) (k := 0) (by omega) (Nat.le_refl _) (by
        show isS ((rs.getD 0 []).getD 0 0) = true
        rw [h2.ok.one]
        decide) (by rw [List.length_map]; omega) (fun x hx => by
        obtain ⟨r, _, rfl⟩ := List.mem_map.mp hx
        exact mkC_le cs r)
      walk_at "dd"
      refine (ok_law_runL T h2 (ms := o.map (mkC cs)) (by rw [List.length_map, ol]) (fun x hx => by
        obtain ⟨r, _, rfl⟩ := List.mem_map.mp hx
        exact mkC_le cs r) fun c m eg c7 m20 => ?_).mono (Nat.le_of_ble_eq_true rfl)
      rw [eg] at rc
      have rc : c < (cls rs).length := rc
      have gt : L2.atI ((ctD rs cs ((dr N (rs.length - 1)).take j)).map D.int) (c : Int) = some (.int (lsum ((dr N (rs.length - 1)).take j) fun o => if (goM rs 0 0 (o.map (mkC cs))).1 = c then 1 else 0)) := L2.atI_nat (by
        unfold ctD
        rw [List.map_map, List.getElem?_map, List.getElem?_range rc] <;> rfl)
      have nxt : ((ctD rs cs ((dr N (rs.length - 1)).take j)).map D.int).set c (.int ((lsum ((dr N (rs.length - 1)).take j) fun o => if (goM rs 0 0 (o.map (mkC cs))).1 = c then 1 else 0) + 1)) = (ctD rs cs ((dr N (rs.length - 1)).take (j + 1))).map .int := by
        unfold ctD
        refine List.ext_getElem (by simp) fun k h1 h2 => ?_
        rw [List.getElem_set]
        simp only [List.getElem_map, List.getElem_range]
        rw [List.take_add_one, ho, show (some o : Option (List Nat)).toList = [o] from rfl, lsum_app, lsum_cons, lsum_nil, Int.add_zero, eg]
        by_cases d : c = k
        · rw [if_pos d, if_pos d, d]
        · rw [if_neg d, if_neg d, Int.add_zero]
      have nlk : lkD rs cs ((dr N (rs.length - 1)).take (j + 1)) = lkD rs cs ((dr N (rs.length - 1)).take j) + m := by
        unfold lkD
        rw [List.take_add_one, ho, show (some o : Option (List Nat)).toList = [o] from rfl, lsum_app, lsum_cons, lsum_nil, Int.add_zero, eg]
      walk_at "dd"
      refine s_ixL (ls_p e3) gt ?_
      walk_at "dd"
      refine set_L e3 (l := c) (by unfold L2.ixN ctD; rw [if_pos (by omega), if_pos (by rw [List.length_map, List.length_map, List.length_range]; omega)] <;> exact rfl) ?_
      rw [nxt]
      have pcl := (List.getElem?_eq_some_iff.mp e3).1
      walk_at "dd"
      rw [← nlk]
      exact hN2 _ _ ⟨hj2, _, _, _, by rw [List.getElem?_set_ne pcp]; exact e1, by rw [List.getElem?_set_ne pca]; exact e2, List.getElem?_set_self pcl, rfl⟩
    · rintro ρ S' ⟨_, x11, x12, x13, e1, e2, e3, rfl⟩
      rw [List.length_map, List.take_length] at e3 ⊢
      rw [lkD_all h2 nd lt]
      rw [ctD_all h2 nd lt] at e3
      have ocl : (oi cs).length = cs.length := List.length_map ..
      have dl := dr_len (N := N) (rs.length - 1)
      clear pca g29 gc ep9 S9
      walk_at "dd"
      rw [List.length_map, ocl]
      clear e2
      obtain ⟨M, eM⟩ : ∃ M : Int, M = (cs.length : Int) := ⟨_, rfl⟩
      rw [← eM] at e3 bM ⊢
      have m0 : 0 ≤ M := by omega
      have m1 : M ≤ N := by omega
      have ln := cn_len rs N M
      refine (ok_class_counts T h2 bN bM (by decide) n0 n1 m0 m1 fun z2 => ?_).mono (Nat.le_of_ble_eq_true rfl)
      have e1' : (S' ++ [z2])[p]? = some (.lst ((dr N (rs.length - 1)).map mkD)) := by rw [List.getElem?_append_left (List.getElem?_eq_some_iff.mp e1).1]; exact e1
      have e3' : (S' ++ [z2])[pc]? = some (.lst ((cnN rs N M).map .int)) := by rw [List.getElem?_append_left (List.getElem?_eq_some_iff.mp e3).1]; exact e3
      generalize S' ++ [z2] = S10 at e1' e3' ⊢
      clear e1 e3
      rw [cnt_cn]
      walk_at "dd"
      refine c_isi (tyK rfl) rfl T.i_UU ?_
      walk_at "dd"
      refine lc_pure (fun _ => true) (fun _ => .bl true) (by rw [List.length_map]; omega) (fun z hz X Y h1 h3 => ?_) ?_
      · obtain ⟨j, _, rfl⟩ := List.mem_map.mp hz
        replace h1 : X (.v (.bl true)) _ := h1 rfl
        walk_at "dd"
        refine (ok_law_int T ?_).mono (Nat.le_of_ble_eq_true rfl)
        walk_at "dd"
        exact h1
      rw [show (((cnN rs N M).map D.int).filter fun _ => true).map (fun _ => D.bl true) = (List.replicate (cnN rs N M).length true).map D.bl by
        rw [List.filter_eq_self.mpr fun _ _ => rfl, List.map_map, List.map_replicate]
        exact List.map_const' ..]
      walk_at "dd"
      refine c_all rfl ls_v ?_
      have allT : ∀ k : Nat, (List.replicate k true).all id = true := fun k => by induction k with | zero => rfl | succ k ih => rw [List.replicate_succ, List.all_cons, ih] <;> rfl
      rw [allT]
      walk_at "dd"
      refine .inl ?_
      walk_at "dd"
      refine s_neD (pdV (ints_p (cnN rs N M))) (Dt.pdP e3' (pds_map (f := D.int) (g := PyData.int) (fun _ => rfl) _)) (shp_intsL _) (shp_intsL _) ?_
      rw [show PyData.eqv (.list ((cnN rs N M).map .int)) (.list ((cnN rs N M).map .int)) = true by
        rw [eqv_ilist, decide_eq_true rfl]]
      walk_at "dd"
      refine (ok_class_countsK T h2 bN bM (by decide) n0 n1 m0 m1 fun z2 => ?_).mono (Nat.le_of_ble_eq_true rfl)
      have e1 : (S10 ++ [z2])[p]? = some (.lst ((dr N (rs.length - 1)).map mkD)) := by rw [List.getElem?_append_left (List.getElem?_eq_some_iff.mp e1').1]; exact e1'
      have e3 : (S10 ++ [z2])[pc]? = some (.lst ((cnN rs N M).map .int)) := by rw [List.getElem?_append_left (List.getElem?_eq_some_iff.mp e3').1]; exact e3'
      generalize S10 ++ [z2] = S11 at e1 e3 ⊢
      clear e1' e3'
      rw [cnt_cn]
      walk_at "dd"
      refine s_neD (pdV (pd_tmap (f := D.int) (g := PyData.int) (fun _ => rfl) (cnN rs N M))) (pdV (pd_tmap (f := D.int) (g := PyData.int) (fun _ => rfl) (cnN rs N M))) (shp_intsT _) (shp_intsT _) ?_
      rw [show PyData.eqv (.tuple ((cnN rs N M).map .int)) (.tuple ((cnN rs N M).map .int)) = true by
        rw [eqv_ituple, decide_eq_true rfl]]
      walk_at "dd"
      have cnl := cn_ln rs N M
      rw [List.length_map]
      walk_at "dd"
      show Lc _ _ _ _ _ _ _ _
      refine lc_pure (fun _ => true) (upD rs N M) (by unfold rngD; rw [List.length_map, List.length_range]; omega) (fun z hz X Y h1 h3 => ?_) ?_
      · obtain ⟨j, hj, rfl⟩ := rng_mem hz
        replace h1 : X (.v (.int (upN rs N M j))) _ := h1 rfl
        walk_at "dd"
        refine (ok_up_to T h2 (by rw [cnl] at hj; exact hj) bN bM (by decide) n0 n1 m0 m1 ?_).mono (Nat.le_of_ble_eq_true rfl)
        walk_at "dd"
        exact h1
      have eu : ((rngD 0 ((cnN rs N M).length : Int).toNat).filter fun _ => true).map (upD rs N M) = ((List.range (cnN rs N M).length).map (upN rs N M)).map .int := by
        rw [List.filter_eq_self.mpr fun _ _ => rfl, rngD, List.map_map, Int.toNat_natCast, List.map_map]
        refine List.map_congr_left fun k _ => ?_
        show D.int (upN rs N M ((0 : Int) + (k : Nat)).toNat) = D.int (upN rs N M k)
        rw [show ((0 : Int) + (k : Nat)).toNat = k by omega]
      rw [eu]
      obtain ⟨us, eus, ul⟩ : ∃ us : List Int, us = (List.range (cnN rs N M).length).map (upN rs N M) ∧ us.length ≤ 8 := ⟨_, rfl, by rw [List.length_map, List.length_range]; exact ln⟩
      rw [← eus]
      walk_at "dd"
      refine (ok_draws T h2 bN (by decide) n0 n1 ?_).mono (Nat.le_of_ble_eq_true rfl)
      walk_at "dd"
      refine s_cat (xs := us.map .int) (ys := [.int (fall N (rs.length - 1))]) (by first | exact ls_v | exact ls_b) (by first | exact ls_v | exact ls_b) (by rw [sizeLine_eq, List.length_map]; simp only [List.length_cons, List.length_nil]; omega) (.inl ?_)
      rw [show us.map D.int ++ [.int (fall N (rs.length - 1))] = (us ++ [fall N (rs.length - 1)]).map .int by rw [List.map_append] <;> rfl]
      walk_at "dd"
      refine lc_pure (fun _ => true) (fun _ => .bl true) (by rw [List.length_map, List.length_append]; simp only [List.length_cons, List.length_nil]; omega) (fun z hz X Y h1 h3 => ?_) ?_
      · obtain ⟨j, _, rfl⟩ := List.mem_map.mp hz
        replace h1 : X (.v (.bl true)) _ := h1 rfl
        walk_at "dd"
        refine (ok_law_int T ?_).mono (Nat.le_of_ble_eq_true rfl)
        walk_at "dd"
        exact h1
      rw [show (((us ++ [fall (N : Int) (rs.length - 1)]).map D.int).filter fun _ => true).map (fun _ => D.bl true) = (List.replicate (us ++ [fall (N : Int) (rs.length - 1)]).length true).map D.bl by
        rw [List.filter_eq_self.mpr fun _ _ => rfl, List.map_map, List.map_replicate]
        exact List.map_const' ..]
      walk_at "dd"
      refine c_all rfl ls_v ?_
      rw [allT]
      walk_at "dd"
      refine (ok_draws T h2 bN (by decide) n0 n1 ?_).mono (Nat.le_of_ble_eq_true rfl)
      walk_at "dd"
      rw [List.length_map, dl]
      rw [if_neg (show ¬ (!decide (fall (N : Int) (rs.length - 1) = fall (N : Int) (rs.length - 1))) = true by rw [decide_eq_true rfl]; exact Bool.false_ne_true)]
      walk_at "dd"
      rw [List.length_map]
      walk_at "dd"
      refine lc_pure (fun _ => true) (upD rs N M) (by unfold rngD; rw [List.length_map, List.length_range]; omega) (fun z hz X Y h1 h3 => ?_) ?_
      · obtain ⟨j, hj, rfl⟩ := rng_mem hz
        replace h1 : X (.v (.int (upN rs N M j))) _ := h1 rfl
        walk_at "dd"
        refine s_slL (ls_p e3) (.inl ?_)
        rw [show (j : Int) + 1 = ((j + 1 : Nat) : Int) by omega, cut_ints hj]
        walk_at "dd"
        refine c_sum rfl ls_v ?_
        rw [cn_sum _ _ _ hj]
        walk_at "dd"
        exact h1
      rw [eu, ← eus]
      walk_at "dd"
      refine s_neD (pdV (ints_p us)) (pdV (ints_p us)) (shp_intsL _) (shp_intsL _) ?_
      rw [show PyData.eqv (.list (us.map .int)) (.list (us.map .int)) = true by
        rw [eqv_ilist, decide_eq_true rfl]]
      clear eu eus
      walk_at "dd"
      refine (ok_mean_looked T h2 bN bM (by decide) n0 n1 m0 m1 (by omega) fun tl et => ?_).mono (Nat.le_of_ble_eq_true rfl)
      have fp : 0 < fall (N : Int) (rs.length - 1) := fall_pos (by omega)
      have bF : Bd 2141 (fall (N : Int) (rs.length - 1)) := (bd_fall bN (n := rs.length - 1) (by omega)).mono (by omega)
      have bt : Bd 200014 tl := by
        rw [et]
        refine bd_lsum (b := 200005) (m := 9) (fun s hs => ?_) (Nat.lt_of_le_of_lt (stops_few h2) (by decide))
        have so := (stop_mem h2 hs).1
        have sm := so.m
        exact (Nat.add_comm 5 200000 ▸ (bd_nat (n := s.m) (k := 5) (by omega)).mul (bd_drw so (by omega) bN bM (by decide)) :)
      have nn : 0 ≤ tl := by
        rw [et]
        exact lsum_nn fun s hs => by
          have so := (stop_mem h2 hs).1
          have := so.m
          exact Int.mul_nonneg (by omega) (drw_nn m0 m1 (by omega))
      rw [← et]
      have c0 : 0 < (cls rs).length := by omega
      have a0 : L2.atI ((cnN rs N M).map D.int) ((0 : Nat) : Int) = some (.int (lsum (stops rs) fun s => if s.c ≤ 0 then drw (rs.length - 1) N M s else 0)) := L2.atI_nat (by
        rw [List.getElem?_map]
        unfold cnN
        rw [List.getElem?_map, List.getElem?_range c0]
        show some (D.int _) = some (D.int _)
        refine congrArg some (congrArg D.int ?_)
        exact lsum_congr fun s _ => by
          by_cases z : s.c = 0
          · rw [if_pos z, if_pos (by omega)]
          · rw [if_neg z, if_neg (by omega)])
      clear et
      generalize fall (N : Int) (rs.length - 1) = F at bF fp dl ⊢
      have mok1 : IntMulOk (tl / (Int.gcd tl F : Nat)) F := (bd_div nn bt).mulOk bF (by decide) (by decide) (by decide)
      have mok2 : IntMulOk tl (F / (Int.gcd tl F : Nat)) := bt.mulOk (bd_div (Int.le_of_lt fp) bF) (by decide) (by decide) (by decide)
      have eqm : tl / (Int.gcd tl F : Nat) * F = tl * (F / (Int.gcd tl F : Nat)) := cross.trans (Int.mul_comm _ _)
      clear bF bt
      walk_at "dd"
      refine sAttr_f isI_ins T.cl_Ratio T.n_Ratio_top rfl ?_
      walk_at "dd"
      rw [List.length_map, dl]
      walk_at "dd"
      refine sAttr_f isI_ins T.cl_Ratio T.n_Ratio_bottom rfl ?_
      walk_at "dd"
      rw [decide_eq_true eqm]
      walk_at "dd"
      refine (ok_up_toK T h2 (n := 0) c0 bN bM (by decide) n0 n1 m0 m1 ?_).mono (Nat.le_of_ble_eq_true rfl)
      walk_at "dd"
      refine s_ixL (ls_p e3) a0 ?_
      walk_at "dd"
      rw [decide_eq_true rfl]
      exact q _
end Toy

set_option Elab.async false
set_option linter.all false
set_option maxRecDepth 100000
set_option maxHeartbeats 8000000
namespace Toy
open PySem PySem.Spec PyProof.Rows L2 My Dt SX Pln
local macro_rules | `(tactic| walk_at "rg") => `(tactic| first
  | omega
  | ((refine And.intro ?_ (And.intro ?_ (And.intro ?_ ?_))) <;> omega))
local macro_rules | `(tactic| walk_at "ls") => `(tactic| first
  | with_reducible exact ls_v
  | with_reducible exact ls_b
  | ((with_reducible refine' ls_p ?hlp); (case hlp => with_reducible assumption)))
local macro_rules | `(tactic| walk_at "start") => `(tactic| ((simp only [startM, startS, List.map_cons, List.map_nil, List.length_cons, List.length_nil, List.cons_append, List.nil_append, Nat.reduceAdd, Nat.reduceSub, List.replicate_succ, List.replicate_zero]); exact rfl))
local macro_rules | `(tactic| walk_at "set") => `(tactic| first
  | ((dsimp only [Int.reduceToNat, List.set_cons_zero, List.set_cons_succ, VO.sl]); done)
  | ((dsimp only [Int.reduceToNat, List.set_cons_zero, List.set_cons_succ, VO.sl]); exact rfl)
  | exact rfl)
local macro_rules | `(tactic| walk_at "sz") => `(tactic| first
  | exact sz_of (Nat.le_of_ble_eq_true rfl)
  | (apply sz_of; simp only [List.length_cons, List.length_nil, List.length_append, List.length_map]; omega))
local macro_rules | `(tactic| walk_at "side") => `(tactic| first
  | with_reducible assumption
  | omega
  | exact ml (by omega) (by omega)
  | exact mr (by omega) (by omega)
  | exact dv (by omega) (by omega)
  | exact Bd.mulOk (by with_reducible assumption) (by with_reducible assumption) (by decide) (by decide) (by decide)
  | exact Bd.div (by with_reducible assumption) (by omega) (by decide) (by decide)
  | (show (0 : Int) < _; omega)
  | exact ⟨by decide, by decide, by decide⟩
  | decide
  | exact rfl)
local macro_rules | `(tactic| walk_at "st") => `(tactic| first
  | with_reducible refine q_seq ?_
  | with_reducible refine q_end ?_
  | with_reducible refine q_nil ?_
  | with_reducible refine q_asg ?_
  | with_reducible refine q_ret ?_
  | with_reducible refine q_if ?_
  | with_reducible refine q_expr ?_
  | with_reducible refine q_retN ?_
  | with_reducible refine q_sub ?_
  | with_reducible refine q_for ?_
  | with_reducible refine q_par ?_
  | with_reducible refine q_par3 ?_
  | with_reducible refine q_parV ?_
  | with_reducible refine q_parV3 ?_
  | with_reducible refine q_asgF ?_
  | with_reducible refine q_asgC ?_
  | ((with_reducible refine' q_frz ?ef ?_); (case ef => exact rfl))
  | ((with_reducible refine' q_app ?ea ?eb ?_); (case ea => exact rfl); (case eb => walk_at "slen"))
  | with_reducible refine q_brk ?_
  | with_reducible refine q_cnt ?_
  | with_reducible refine q_fldS ?_
  | with_reducible refine q_fldP ?_
  | with_reducible refine q_raise ?_
  | with_reducible refine q_try ?_)
local macro_rules | `(tactic| walk_at "slen") => `(tactic| first
  | with_reducible assumption
  | ((rw [sizeLine_eq]); (simp only [List.length_cons, List.length_nil, List.length_append, List.length_map]); omega))
local macro_rules | `(tactic| walk_at "sm") => `(tactic| first
  | with_reducible refine s_add ?_
  | with_reducible refine s_sub ?_
  | ((with_reducible refine' s_mul ?hm ?_); (case hm => walk_at "side"))
  | ((with_reducible refine' s_fdiv ?hm ?_); (case hm => walk_at "side"))
  | ((with_reducible refine' s_mod ?hm ?_); (case hm => walk_at "side"))
  | with_reducible refine s_neg ?_
  | ((with_reducible refine' s_pow ?hm ?_); (case hm => walk_at "side"))
  | ((with_reducible refine' s_ixL ?hl ?he ?_); (case hl => walk_at "ls"); (case he => exact rfl))
  | ((with_reducible refine' s_ixT ?he ?_); (case he => exact rfl))
  | ((with_reducible refine' set_L2 ?ha ?hb ?hc ?_); (case ha => with_reducible assumption); (case hb => exact rfl); (case hc => walk_at "set"))
  | with_reducible refine s_addB ?_
  | with_reducible refine s_lt ?_
  | with_reducible refine s_le ?_
  | with_reducible refine s_gt ?_
  | with_reducible refine s_ge ?_
  | with_reducible refine s_eq ?_
  | with_reducible refine s_ne ?_
  | with_reducible refine s_eqS ?_
  | with_reducible refine s_neS ?_
  | with_reducible refine s_isN ?_
  | with_reducible refine s_isNotN ?_
  | with_reducible refine t_bl ?_)
local macro_rules | `(tactic| walk_at "cl") => `(tactic| first
  | with_reducible refine c_int ?_
  | with_reducible refine c_intB ?_
  | with_reducible refine c_abs ?_
  | ((with_reducible refine' c_max ?hm ?_); (case hm => exact rfl))
  | ((with_reducible refine' c_min ?hm ?_); (case hm => exact rfl))
  | ((with_reducible refine' c_divmod ?hm ?_); (case hm => walk_at "side"))
  | ((with_reducible refine' c_len ?hm ?_); (case hm => walk_at "sq"))
  | ((with_reducible refine' c_list ?hm ?_); (case hm => walk_at "sq"))
  | ((with_reducible refine' c_tuple ?hm ?_); (case hm => walk_at "sq")))
local macro_rules | `(tactic| walk_at "sq") => `(tactic| first
  | exact sqL
  | exact sqT
  | exact sqB
  | exact sqP (by with_reducible assumption))
local macro_rules | `(tactic| walk_at "v") => `(tactic| first
  | ((with_reducible refine' v_sh ?ev ?_); (case ev => exact rfl))
  | ((with_reducible refine' v_ol ?ev ?_); (case ev => exact rfl))
  | ((with_reducible refine' v_slf ?ev ?_); (case ev => exact rfl))
  | with_reducible refine q_val ?_
  | ((with_reducible refine' q_walk ?ew ?_); (case ew => exact rfl))
  | ((with_reducible refine' q_rng1 ?ej ?ek ?_); (case ej => walk_at "rg"); (case ek => walk_at "rg"))
  | ((with_reducible refine' q_rng2 ?ej ?_); (case ej => walk_at "rg"))
  | with_reducible refine q_rngL ?_
  | with_reducible refine q_solc ?_
  | with_reducible refine q_sol0 ?_
  | ((with_reducible refine' q_gname ?eg ?_); (case eg => walk_at "set"))
  | ((with_reducible refine' n_set ?eg ?_); (case eg => walk_at "set"))
  | ((with_reducible refine' n_set2 ?eg ?_); (case eg => walk_at "set"))
  | ((with_reducible refine' n_set3 ?eg ?_); (case eg => walk_at "set"))
  | with_reducible refine q_two ?_
  | with_reducible refine q_three ?_
  | with_reducible refine q_vv ?_
  | with_reducible refine q_isS ?_
  | with_reducible refine q_isL ?_
  | with_reducible refine q_twoV ?_
  | with_reducible refine q_threeV ?_
  | with_reducible refine q_bl ?_
  | with_reducible refine q_oint ?_
  | ((with_reducible refine' q_gtup ?el ?_); (case el => exact rfl))
  | with_reducible refine q_gcons ?_
  | with_reducible refine q_gnil ?_
  | with_reducible refine i_t ?_
  | with_reducible refine i_f ?_
  | with_reducible refine i_nt ?_
  | with_reducible refine i_nf ?_
  | ((with_reducible refine' n_t ?en ?_); (case en => exact rfl))
  | ((with_reducible refine' n_f ?en ?_); (case en => exact rfl))
  | ((with_reducible refine' nn_t ?en ?_); (case en => exact rfl))
  | ((with_reducible refine' nn_f ?en ?_); (case en => exact rfl))
  | with_reducible refine And.intro (by walk_at "sz") ?_)
local macro_rules | `(tactic| walk_at "d") => `(tactic| first
  | walk_at "v"
  | walk_at "st"
  | walk_at "sm"
  | walk_at "cl"
  | walk_at "at")
local macro_rules | `(tactic| walk_at "dd") => `(tactic| repeat walk_at "d")
local macro_rules | `(tactic| walk_at "tx") => `(tactic| simp only [l_dash, l_dot, l_nil, l_space, l_figs, l_signs])

variable {P : Program} {w : World} {K : PySem.W.Frag} {mg : Str → Option Value} {base : Heap} {S : Sto} {Ex : XS} {Q : QO}

theorem ok_law (T : Tx K mg) {ns : List Int} (hl : ns.length ≤ 63) : sFun (bs P w K mg base) 16 (.ref (He.ga K "law")) [] [.lsk (ns.map .int)] [] [] noX (fun o _ => o = .v (.bl true)) := by
  refine' call_d (B := bs P w K mg base) 15 (Classical.choose_spec T.d_law) sc_law rfl (bm_all (ps := ["_law_script"]) (Classical.choose_spec T.d_law) (fun _ _ _ _ _ _ us hl => match us, hl with | [_], _ => rfl)) (dss_one (ds_ret (de_callB (id := "all") rfl T.f_all (by decide +kernel) (da_cons (DF.de (df_lc (own := [("_law_k", 1)]) rfl (by decide) (di_range1 rfl T.f_range (da_cons (de_callB (id := "max") rfl T.f_max (by decide +kernel) (da_cons de_int (da_cons (de_callB (id := "min") rfl T.f_min (by decide +kernel) (da_cons de_int (da_cons (de_callB (id := "len") rfl T.f_len (by decide +kernel) (da_cons (dv 0) da_nil)) da_nil))) da_nil))) da_nil)) (blkOk_by (N := ["_law_script", "_law_k"]) (sc := defScope s_law) (by decide +kernel)) (dgn 1) dts_nil (de_call rfl rfl ⟨T.g_law_right, (Classical.choose_spec T.d_law_right).kp⟩ (da_cons (de_call rfl rfl ⟨T.g_law_bag, (Classical.choose_spec T.d_law_bag).kp⟩ (da_cons (de_call rfl rfl ⟨T.g_law_cell, (Classical.choose_spec T.d_law_cell).kp⟩ (da_cons (dv 0) (da_cons (dv 1) da_nil))) da_nil)) da_nil)))) da_nil)))) ⟨rfl, rfl⟩ ?st ?_
  case st => walk_at "start"
  walk_at "dd"
  refine c_lenX ?_
  rw [List.length_map]
  walk_at "dd"
  have h1 : ∃ m : Int, m = (if (if (ns.length : Int) < 6 then (ns.length : Int) else 6) > 2 then (if (ns.length : Int) < 6 then (ns.length : Int) else 6) else 2) ∧ 0 ≤ m ∧ m ≤ 6 := ⟨_, rfl, by split <;> split at * <;> omega, by split <;> split at * <;> omega⟩
  obtain ⟨m', em, m0, m1⟩ := h1
  rw [← em]
  clear em
  walk_at "dd"
  refine lc_inv (fun i acc S' => acc = List.replicate i (.bl true) ∧ i ≤ 6) ⟨rfl, by decide⟩ ?_ ?_ ?_
  · rintro i acc S' ⟨rfl, i4⟩
    rw [List.length_replicate, sizeLine_eq]
    omega
  · rintro i x acc S' X Y hx ⟨rfl, i4⟩ h1 h2
    obtain ⟨hi, rfl⟩ := rngD_at hx
    rw [Int.zero_add]
    walk_at "dd"
    refine (ok_cell T hl (by omega) fun v => ?_).mono (Nat.le_of_ble_eq_true rfl)
    walk_at "dd"
    refine (ok_bag T fun S2 h2 _ => ?_).mono (Nat.le_of_ble_eq_true rfl)
    walk_at "dd"
    refine (ok_right T h2 fun S3 => ?_).mono (Nat.le_of_ble_eq_true rfl)
    exact h1 _ _ ⟨by rw [List.replicate_succ'] <;> rfl, by omega⟩
  · rintro acc S' ⟨rfl, i4⟩
    walk_at "dd"
    rw [show List.replicate (rngD 0 m'.toNat).length (D.bl true) = (List.replicate (rngD 0 m'.toNat).length true).map D.bl by rw [List.map_replicate]]
    show sCall _ _ (.builtin "all") [] [.v (.lst _)] [] _ _ _
    refine c_all rfl ls_v ?_
    rw [show ∀ k : Nat, (List.replicate k true).all id = true from fun k => by induction k with | zero => rfl | succ k ih => rw [List.replicate_succ, List.all_cons, ih] <;> rfl]
    walk_at "dd"
    rfl
end Toy

set_option Elab.async false
set_option linter.all false
set_option maxRecDepth 100000
set_option maxHeartbeats 8000000
namespace Toy
open PySem PySem.Spec PyProof.Rows L2 My Dt SX
end Toy
open PySem PySem.W PySem.Calls PyProof.Rows
theorem PySem.Challenge.cw_drawclaims_k25_counts_by_all_draws_holds : PySem.Challenge.rw_drawclaims_k25_counts_by_all_draws.Holds := by
  w_on; o_law
  refine HandSHeadRun.head_any (r := OpenLaw.row PySem.Challenge.rw_drawclaims_k25_counts_by_all_draws) (q := view (OpenLaw.row PySem.Challenge.rw_drawclaims_k25_counts_by_all_draws).prog [66]) (H := Toy.hk) (ob := Toy.ob) (M := 20000) (loose := Toy.loose) (d := HandSHeadRun.topDef (OpenLaw.row PySem.Challenge.rw_drawclaims_k25_counts_by_all_draws).prog 66) (kwd := []) Toy.ob_eq
    (by kernel_rfl) (fun s => by kernel_rfl) Toy.headRunT (by kernel_rfl) (by kernel_rfl) (by kernel_rfl) (by rfl) (by first | assumption | decide +kernel) (by decide +kernel) ⟨rfl, rfl, rfl, rfl, rfl, by decide +kernel⟩ ?hw ?hc
  case hw => w_witness2
  case hc =>
    refine Dt.walk_d (l := PySem.Challenge.rw_drawclaims_k25_counts_by_all_draws) (n := 63) (k := 16) rfl (by decide) (by kernel_rfl) ⟨⟨rfl, by decide, by decide⟩, rfl⟩ ?F
    intro w mg fa h Y G hmg0
    obtain ⟨K, KX, c⟩ := Y
    have hmg : mg ("law" : PySem.Str) = some (.ref fa) := by
      have e : (HandSHeadRun.topDef (OpenLaw.row PySem.Challenge.rw_drawclaims_k25_counts_by_all_draws).prog 66).name = ("law" : PySem.Str) := by kernel_rfl
      rw [← e]
      exact hmg0
    have T := Toy.tx_ok KX G c
    have e := hmg.symm.trans T.g_law
    cases e
    exact ⟨K, KX, fun base ns hl => Toy.ok_law T hl⟩
