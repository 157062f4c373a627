import PyProof.Rows.All
import Wide.All
import OpenK.AllK
import Wide.FinOn
import KE.KStateDown
import Lean
import HandS.Base
import HandS.Call
import HandS.List
import HandS.Comp
import HandS.Ends
import HandS.More
import HandS.Text
import HandS.Words
import HandS.WordsList
import HandS.Exc
import HandS.WordsExc
import HandS.Defaults
import HandS.Wide
import HandS.WideBits
import HandS.IsInst
import HandS.FStr
import HandS.MakeKwOnly
import HandS.Property
import HandS.ClsMeth
import HandS.Evl
import HandS.Head0
import HandS.Head1
import HandS.Head2
import HandS.HeadEnd
import HandS.HeadHook1
import HandS.HeadHook2
import HandS.Codes
import HandS.MakeKw
import HandS.TupAny
import KE.IntTextLaws
import KE.KOpsOwn
import HandS.SlotsOwn
import PyProof.InstEq
import HandS.RevRange
import HandS.Style
import HandS.SortInts
import HandS.ExcInit
import HandS.ExcField
import KE.KExcIs
import PyProof.ExcBaseAll.LookupError
import PyProof.ExcBaseAll.ArithmeticError
import PyProof.ExcBaseAll.ValueError
import HandS.Dict
import HandS.HotCalls
import KE.KTryMore
import HandS.Lambda
import HandS.HeadHook4
import HandS.TupMul
import HandS.Conv
import HandS.Iter
import HandS.Steps
import HandS.Star
import HandS.Deep
import HandS.DictComp
import HandS.Zip
import PyProof.LongRange
import HandS.RaiseMore
import PySem.Challenge.RW_drawclaims_k73_tables_by_a_list
import PyProof.ReprLen
import PyProof.SliceStr2
import PyProof.SumWalkG
import PyProof.WalksMore
import PyProof.Rows.SumAny
import KE.KDictZip
import HandS.Keys
import HandS.GenList
set_option Elab.async false
set_option linter.all false
set_option maxRecDepth 100000
set_option maxHeartbeats 4000000
/-! LayA: a hook of facts about defs at any place; good defs; steps of readings -/
namespace Hk
open PySem PySem.Spec PyProof.Rows L2 He
/-- one def: where it stands, its name, qualified name, parameters, body, scope, defaults -/
structure DefE where
  adr : PySem.W.Frag → Addr
  name : Str
  qual : Str
  params : Arguments
  body : List Stmt
  scope : Scope
  dfl : List Dv := []
  kwd : List (Str × Dv) := []
def fnE (K : PySem.W.Frag) (a : Addr) : FnW := match K.lookup a with
  | some ⟨_, _, .func fd, _⟩ => some (fd.name, fd.qualname, fd.params, fd.body, fd.scope, fd.globals, fd.closure, fd.builtins)
  | _ => none
def DefE.val (d : DefE) : FnW := some (d.name, d.qual, d.params, .stmts d.body, d.scope, mainGlobals, [], builtinsNs)
def DefE.dvs (K : PySem.W.Frag) (d : DefE) : List V := d.dfl.map (Dv.v K)
def DefE.kws (K : PySem.W.Frag) (d : DefE) : List (Str × V) := d.kwd.map fun q => (q.1, q.2.v K)
def DefE.ok (K : PySem.W.Frag) (d : DefE) : Bool := PySem.W.keepIn K (.ref (d.adr K)) && (match K.lookup (d.adr K) with
  | some ⟨_, _, .func fd, _⟩ => PySem.W.codeIn K fd.code d.qual && (dflB K fd.defaults (d.dvs K) && kwdB K fd.kwdefaults (d.kws K))
  | _ => false)
theorem DefE.funD {K : PySem.W.Frag} {d : DefE} (e : fnE K (d.adr K) = d.val) (c : d.ok K = true) : ∃ fd, FunD K d.name d.qual d.params d.body d.scope (d.dvs K) (d.kws K) (d.adr K) fd := by
  obtain ⟨kp, c2⟩ := ba c
  unfold fnE at e
  cases q : K.lookup (d.adr K) with
  | none =>
    rw [q] at c2
    cases c2
  | some o =>
    obtain ⟨oc, od, dt, osl⟩ := o
    rw [q] at c2 e
    cases dt with
    | func fd =>
      obtain ⟨n1, n2, n3, n4, n5, n6, n7, n8, n9, n10, n11, n12, n13, n14, n15⟩ := fd
      have e2 : (some (n1, n2, n3, n4, n5, n6, n7, n15) : FnW) = some (d.name, d.qual, d.params, .stmts d.body, d.scope, mainGlobals, [], builtinsNs) := e
      simp only [Option.some.injEq, Prod.mk.injEq] at e2
      obtain ⟨h1, h2, h3, h4, h5, h6, h7, h8⟩ := e2
      subst h1 h2 h3 h4 h5 h6 h7 h8
      have c3 : (PySem.W.codeIn K n13 d.qual && (dflB K n8 (d.dvs K) && kwdB K n9 (d.kws K))) = true := c2
      obtain ⟨k1, k2⟩ := ba c3
      obtain ⟨k3, k4⟩ := ba k2
      exact ⟨_, ⟨oc, od, n8, n9, n10, n11, n12, n13, n14, osl, rfl, q, k1, dflB_ok k3, kwdB_ok k4⟩, kp⟩
    | _ => cases c2
/-! the Hook -/
abbrev AlE : Type := Bool × List FnW
def obsE (fa : List Fa) (fn : List DefE) (ex : PySem.W.Frag → Bool) (K : PySem.W.Frag) : AlE := ((fa.all fun f => f.ok K) && ((fn.all fun d => d.ok K) && ex K), fn.map fun d => fnE K (d.adr K))
def valE (fn : List DefE) : AlE := (true, fn.map DefE.val)
def SaysE (fa : List Fa) (fn : List DefE) (ex : PySem.W.Frag → Bool) (K : PySem.W.Frag) : Prop := obsE fa fn ex K = valE fn
section
variable {fa : List Fa} {fn : List DefE} {ex : PySem.W.Frag → Bool} {K : PySem.W.Frag}
theorem SaysE.parts (c : SaysE fa fn ex K) : (fa.all fun f => f.ok K) = true ∧ (fn.all fun d => d.ok K) = true ∧ ex K = true := by
  have c1 : ((fa.all fun f => f.ok K) && ((fn.all fun d => d.ok K) && ex K)) = true := congrArg (fun z : AlE => z.1) c
  obtain ⟨h1, h2⟩ := ba c1
  obtain ⟨h3, h4⟩ := ba h2
  exact ⟨h1, h3, h4⟩
theorem SaysE.fact (c : SaysE fa fn ex K) (i : Nat) {f : Fa} (h : fa[i]? = some f := by rfl) : f.ok K = true :=
  List.all_eq_true.mp c.parts.1 f (List.mem_of_getElem? h)
theorem SaysE.more (c : SaysE fa fn ex K) : ex K = true := c.parts.2.2
theorem SaysE.def_ (c : SaysE fa fn ex K) (i : Nat) {d : DefE} (h : fn[i]? = some d := by rfl) : ∃ fd, FunD K d.name d.qual d.params d.body d.scope (d.dvs K) (d.kws K) (d.adr K) fd := by
  have c2 := c.parts.2.1
  have e : fn.map (fun d => fnE K (d.adr K)) = fn.map DefE.val := congrArg (fun z : AlE => z.2) c
  have e2 : (fn.map fun d => fnE K (d.adr K))[i]? = (fn.map DefE.val)[i]? := by rw [e]
  rw [List.getElem?_map, List.getElem?_map, h] at e2
  exact DefE.funD (Option.some.inj e2) (List.all_eq_true.mp c2 d (List.mem_of_getElem? h))
end
end Hk
namespace My
open PySem PySem.Spec PyProof.Rows L2
/-! good defs: beside the room it is known that no repr is under way -/
structure RG (k : Nat) (A : Around) : Prop where
  r : Room k A
  g : A.guards = some []
theorem RG.mono {j k : Nat} {A : Around} (r : RG k A) (h : j ≤ k) : RG j A := ⟨r.r.mono h, r.g⟩
theorem RG.deeper {k : Nat} {A : Around} (r : RG (k + 1) A) (env : Env) : RG k (A.deeper env) := ⟨r.r.deeper env, r.g⟩
theorem RG.in1 {k : Nat} {A : Around} (r : RG (k + 1) A) : RG k A.in1 := ⟨r.r.in1, r.g⟩
theorem RG.units {k : Nat} {A : Around} (r : RG k A) : A.units + 64 < cLine := r.r.units
theorem RG.make {k : Nat} {A : Around} (r : RG (k + 1) A) (C : Addr) (us : List Value) (kw : List (Str × Value)) : RG k (A.under (.builtin "type.__call__" ⟨.ref C :: us, kw⟩)) := by
  refine ⟨r.r.make C us kw, ?_⟩
  show pushGuards (Code.guards (.builtin "type.__call__" ⟨.ref C :: us, kw⟩)) A.guards = some []
  have e : Code.guards (.builtin "type.__call__" ⟨.ref C :: us, kw⟩) = [] := by
    unfold Code.guards Code.isGuard
    rw [if_neg (show ¬ (guardIds.contains "type.__call__" = true) from by decide +kernel)]
  rw [e]
  exact r.g
/-- the def fd at f keeps its promise wherever no repr is under way -/
structure FnG (P : Program) (w : World) (K : PySem.W.Frag) (mg : Str → Option Value) (base : Heap) (CX : CXT) (k : Nat) (f : Addr) (fd : FuncData) (ps : List Str) (sp : Sp) : Prop where
  len : ∀ vs H Q E, sp vs H Q E → vs.length = ps.length
  run : ∀ (A : Around) (outer : List Env) (s : Shared) (H : Hp) (args : Args) (us : List Value) (vs : List V) (Q : VK) (E : XK), RG k A → Env0 P w K mg base A outer s H → BindsTo s fd args (ps.zip us) → Vals vs us → sp vs H Q E →
    codeAny (model P w) A (.call (.ref f) args) (CR CX outer P w H s Q E) s
/-- dvs: the values of the parameters that a call by position does not write -/
structure Gf (P : Program) (w : World) (K : PySem.W.Frag) (mg : Str → Option Value) (base : Heap) (CX : CXT) (k : Nat) (f : Addr) (ps : List Str) (dvs : List V) (sp : Sp) : Prop where
  ex : ∃ (fd : FuncData) (ds : List Value), FnG P w K mg base CX k f fd ps sp ∧ Binds K fd ps ds ∧ Vals dvs ds
  kp : PySem.W.keepIn K (.ref f) = true
section
variable {CX : CXT} {P : Program} {w : World} {K : PySem.W.Frag} {mg : Str → Option Value} {base : Heap} {k : Nat} {f : Addr} {x qual : Str} {params : Arguments} {body : List Stmt} {scope : Scope} {dvs : List V} {kws : List (Str × V)} {fd : FuncData} {N ps : List Str} {sp : Sp}
end
section
variable {X : Cx} {CX : CXT} {k j : Nat} {f C : Addr} {x : Str} {ps : List Str} {dvs : List V} {sp : Sp} {E : XK} {e : Expr} {es : List Expr} {p pos : Pos} {t : TA}
theorem Gf.go {A : Around} {H : Hp} {s : Shared} {us : List Value} {vs : List V} {Q : VK} {outer : List Env} {P : Program} {w : World} {K : PySem.W.Frag} {mg : Str → Option Value} {base : Heap} (G : Gf P w K mg base CX k f ps dvs sp) (hr : RG j A) (hj : k ≤ j) (e0 : Env0 P w K mg base A outer s H) (KX : K.In s.heap) (r : Vals vs us) (h : sp (vs ++ dvs) H Q E) :
    codeAny (model P w) A (.call (.ref f) ⟨us, []⟩) (CR CX outer P w H s Q E) s := by
  obtain ⟨fd, ds, F, hb, hd⟩ := G.ex
  have r2 := r.append hd
  exact F.run A outer s H ⟨us, []⟩ (us ++ ds) (vs ++ dvs) Q E (hr.mono hj) e0 (hb s us KX (by rw [← r2.length]; exact F.len _ _ _ _ h)) r2 h
/-- a class whose instances its own __init__ makes -/
structure Mg (K : PySem.W.Frag) (C f : Addr) : Prop where
  makes : PySem.W.makesIn K C = true
  init : PySem.W.findIn K (.ref C) "__init__" = some (some (.ref f))
  fn : PySem.W.isFn K (.ref f) = true
  kp : PySem.W.keepIn K (.ref C) = true
/-- the class stands in the i-th slot -/
def tMakeL (i : Nat) (C : Addr) (sp : Sp) (dvs : List V) (E : XK) (t : TA) : TE := fun σ H Q => σ[i]? = some (some (.ref C)) ∧ tMake C sp dvs E t σ H Q
end
section
end
/-! tests -/
section
variable {A B : Prop}
theorem b_bl {b : Bool} {F : Bool → Prop} (h : F b) : ∃ k, V.bl b = .bl k ∧ F k := ⟨b, rfl, h⟩
theorem i_pos {p : Prop} [Decidable p] (hp : p) (h : A) : if decide p = true then A else B := by
  rw [if_pos (decide_eq_true hp)]
  exact h
theorem i_neg {p : Prop} [Decidable p] (hp : ¬ p) (h : B) : if decide p = true then A else B := by
  rw [if_neg (by rw [decide_eq_false hp]; exact Bool.false_ne_true)]
  exact h
theorem i_two {p : Prop} [Decidable p] (h1 : p → A) (h2 : ¬ p → B) : if decide p = true then A else B := by
  by_cases hp : p
  · exact i_pos hp (h1 hp)
  · exact i_neg hp (h2 hp)
theorem n_pos {p : Prop} [Decidable p] (hp : p) (h : B) : if (!decide p) = true then A else B := by
  rw [if_neg (by rw [decide_eq_true hp]; exact Bool.false_ne_true)]
  exact h
theorem n_neg {p : Prop} [Decidable p] (hp : ¬ p) (h : A) : if (!decide p) = true then A else B := by
  rw [if_pos (by rw [decide_eq_false hp] <;> rfl)]
  exact h
theorem i_t (h : A) : if true = true then A else B := h
theorem i_f (h : B) : if false = true then A else B := h
theorem i_nt (h : B) : if (!true) = true then A else B := h
theorem i_nf (h : A) : if (!false) = true then A else B := h
end
/-! operators on ints, texts, bools with their own readings -/
section
variable {X : Cx}
theorem op_mulA : OpR X (binaryOp .Mult) (rI IntMulOk fun i j => .int (i * j)) := opI fun _ _ _ _ _ _ _ hc q => mul_int q hc
def rSB (f : Str → Str → Bool) : R2 := fun x y H Q => ∃ a b, x = .str a ∧ y = .str b ∧ Q (.bl (f a b)) H
theorem op_eqI : OpR X (compareOp .Eq) (rI0 fun i j => .bl (decide (i = j))) := fun pins s σ H x y v u Q I rx ry h => by
  obtain ⟨i, j, rfl, rfl, q⟩ := h
  refine op_eq pins s σ H _ _ v u Q I rx ry ⟨rfl, ?_⟩
  rw [dec_int, Bool.beq_eq_decide_eq]
  exact q
theorem op_neI : OpR X (compareOp .NotEq) (rI0 fun i j => .bl (!decide (i = j))) := fun pins s σ H x y v u Q I rx ry h => by
  obtain ⟨i, j, rfl, rfl, q⟩ := h
  refine op_ne pins s σ H _ _ v u Q I rx ry ⟨rfl, ?_⟩
  rw [dec_int, Bool.beq_eq_decide_eq]
  exact q
theorem op_eqS : OpR X (compareOp .Eq) (rSB fun a b => decide (a = b)) := fun pins s σ H x y v u Q I rx ry h => by
  obtain ⟨i, j, rfl, rfl, q⟩ := h
  refine op_eq pins s σ H _ _ v u Q I rx ry ⟨rfl, ?_⟩
  rw [dec_str, Bool.beq_eq_decide_eq]
  exact q
theorem op_neS : OpR X (compareOp .NotEq) (rSB fun a b => !decide (a = b)) := fun pins s σ H x y v u Q I rx ry h => by
  obtain ⟨i, j, rfl, rfl, q⟩ := h
  refine op_ne pins s σ H _ _ v u Q I rx ry ⟨rfl, ?_⟩
  rw [dec_str, Bool.beq_eq_decide_eq]
  exact q
end
/-! steps -/
section
variable {K : PySem.W.Frag} {σ : L2.St} {H : Hp} {nx bk ct : L2.St → Hp → Prop} {rt : VK} {ta tb tc te tv : TE} {Q : VK} {t u : TS} {g : TG} {tA : TA} {c d : TT} {R : Bool → Hp → Prop} {RA : List V → Hp → Prop}
theorem r_seq (h : t ⟨u ⟨nx, rt, bk, ct⟩, rt, bk, ct⟩ σ H) : tSeq t u ⟨nx, rt, bk, ct⟩ σ H := h
theorem r_next (h : nx σ H) : tNext ⟨nx, rt, bk, ct⟩ σ H := h
theorem r_brk (h : bk σ H) : tBreak ⟨nx, rt, bk, ct⟩ σ H := h
theorem r_cont (h : ct σ H) : tCont ⟨nx, rt, bk, ct⟩ σ H := h
theorem r_ret (h : te σ H rt) : tRet te ⟨nx, rt, bk, ct⟩ σ H := h
theorem r_retN (h : rt .non H) : tRetN ⟨nx, rt, bk, ct⟩ σ H := h
theorem r_asg (h : te σ H fun x H1 => g x σ H1 nx) : tAsg te g ⟨nx, rt, bk, ct⟩ σ H := h
theorem r_drop (h : te σ H fun _ H1 => nx σ H1) : tDrop te ⟨nx, rt, bk, ct⟩ σ H := h
theorem r_ifS (h : c σ H fun b H1 => if b = true then t ⟨nx, rt, bk, ct⟩ σ H1 else u ⟨nx, rt, bk, ct⟩ σ H1) : tIfS c t u ⟨nx, rt, bk, ct⟩ σ H := h
theorem r_par {i j : Nat} (h : tA σ H fun vs H1 => ∃ v w, vs = [v, w] ∧ nx ((σ.set i (some v)).set j (some w)) H1) : tPar i j tA ⟨nx, rt, bk, ct⟩ σ H := h
theorem r_two {v w : V} {F : V → V → Prop} (h : F v w) : ∃ a b, ([v, w] : List V) = [a, b] ∧ F a b := ⟨v, w, rfl, h⟩
theorem r_gname {i : Nat} {v : V} {N : L2.St → Hp → Prop} (h : N (σ.set i (some v)) H) : gName i v σ H N := h
theorem r_gsub {v : V} {ts : TSet} {N : L2.St → Hp → Prop} (h : ta σ H fun o H1 => tb σ H1 fun i H2 => ts o i v H2 fun H3 => N σ H3) : gSub ta tb ts v σ H N := h
theorem r_var {i : Nat} {v : V} (e : σ[i]? = some (some v)) (h : Q v H) : tVar i σ H Q := ⟨v, e, h⟩
theorem r_c {v : V} (h : Q v H) : tC v σ H Q := h
theorem r_op {r : R2} (h : ta σ H fun x H1 => tb σ H1 fun y H2 => r x y H2 Q) : tOp r ta tb σ H Q := h
theorem r_un {r : V → Hp → VK → Prop} (h : ta σ H fun x H1 => r x H1 Q) : tUn r ta σ H Q := h
theorem r_i0 {f : Int → Int → V} {i j : Int} (h : Q (f i j) H) : rI0 f (.int i) (.int j) H Q := ⟨i, j, rfl, rfl, h⟩
theorem r_i {C : Int → Int → Prop} {f : Int → Int → V} {i j : Int} (hc : C i j) (h : Q (f i j) H) : rI C f (.int i) (.int j) H Q := ⟨i, j, rfl, rfl, hc, h⟩
theorem r_u {f : Int → V} {i : Int} (h : Q (f i) H) : rU f (.int i) H Q := ⟨i, rfl, h⟩
theorem r_sb {f : Str → Str → Bool} {a b : Str} (h : Q (.bl (f a b)) H) : rSB f (.str a) (.str b) H Q := ⟨a, b, rfl, rfl, h⟩
theorem r_test (h : te σ H fun x H' => ∃ k, x = .bl k ∧ R k H') : tTest te σ H R := h
theorem r_tB (h : te σ H fun x H' => ∃ k, x = .bl k ∧ R k H') : tB te σ H R := h
theorem r_and (h : c σ H fun b H1 => if b = true then d σ H1 R else R false H1) : tAnd c d σ H R := h
theorem r_or (h : c σ H fun b H1 => if b = true then R true H1 else d σ H1 R) : tOr c d σ H R := h
theorem r_not (h : c σ H fun b H1 => R (!b) H1) : tNot c σ H R := h
theorem r_andV (h : ta σ H fun x H1 => ∃ k, x = .bl k ∧ if k = true then tb σ H1 Q else Q (.bl false) H1) : tAndV ta tb σ H Q := h
theorem r_orV (h : ta σ H fun x H1 => ∃ k, x = .bl k ∧ if k = true then Q (.bl true) H1 else tb σ H1 Q) : tOrV ta tb σ H Q := h
theorem r_notV (h : ta σ H fun x H1 => ∃ k, x = .bl k ∧ Q (.bl (!k)) H1) : tNotV ta σ H Q := h
theorem r_tif (h : c σ H fun b H1 => if b = true then ta σ H1 Q else tb σ H1 Q) : tIf c ta tb σ H Q := h
theorem r_nil (h : RA [] H) : tNil σ H RA := h
theorem r_cons {tR : TA} (h : te σ H fun x H1 => tR σ H1 fun xs H2 => RA (x :: xs) H2) : tCons te tR σ H RA := h
theorem r_call {sp : Sp} {dvs : List V} {E : XK} (h : tA σ H fun vs H1 => sp (vs ++ dvs) H1 Q E) : tCall sp dvs E tA σ H Q := h
theorem r_cb {r : List V → Hp → VK → Prop} (h : tA σ H fun vs H1 => r vs H1 Q) : tCB r tA σ H Q := h
theorem r_lst (h : tA σ H fun xs H1 => xs.length ≤ sizeLine ∧ ∀ p, H1 p = none → Q (.ref p) (upd H1 p (.lst xs))) : tLst tA σ H Q := h
theorem r_tup (h : tA σ H fun xs H1 => xs.length ≤ sizeLine ∧ ∀ p, H1 p = none → Q (.ref p) (upd H1 p (.tup xs))) : tTup tA σ H Q := h
theorem r_int {i : Int} {F : Int → Prop} {B : Prop} (h : F i) : (∃ j, ([V.int i] : List V) = [.int j] ∧ F j) ∨ B := .inl ⟨i, rfl, h⟩
theorem r_intb {b : Bool} {F : Bool → Prop} {B : Prop} (h : F b) : B ∨ ∃ k, ([V.bl b] : List V) = [.bl k] ∧ F k := .inr ⟨b, rfl, h⟩
theorem r_call0 {sp : Sp} {E : XK} (h : tA σ H fun vs H1 => sp vs H1 Q E) : tCall sp [] E tA σ H Q := by
  unfold tCall
  simp only [List.append_nil]
  exact h
theorem r_i1 {i : Int} {F : Int → Prop} (h : F i) : ∃ j, ([V.int i] : List V) = [.int j] ∧ F j := ⟨i, rfl, h⟩
theorem r_i2 {i j : Int} {F : Int → Int → Prop} (h : F i j) : ∃ a b, ([V.int i, V.int j] : List V) = [.int a, .int b] ∧ F a b := ⟨i, j, rfl, h⟩
end
end My

set_option Elab.async false
set_option linter.all false
set_option maxRecDepth 100000
set_option maxHeartbeats 4000000
/-! LayB: methods, properties, classmethods, keywords, str and repr of own objects, repr of data -/
namespace My
open PySem PySem.Spec PyProof.Rows L2
section
variable {X : Cx} {CX : CXT} {k j : Nat} {f C : Addr} {x m : Str} {ps : List Str} {dvs : List V} {sp : Sp} {E : XK} {o e : Expr} {es : List Expr} {p pos apos : Pos} {t : TA} {ta : TE}
end
/-! f(.., k = v, ..), C(.., k = v, ..) -/
/-- a def as a call with n positional values and keywords ks finds it; gV puts both in the parameters' order -/
structure Gk (P : Program) (w : World) (K : PySem.W.Frag) (mg : Str → Option Value) (base : Heap) (CX : CXT) (k : Nat) (f : Addr) (ps : List Str) (n : Nat) (ks : List Str) (gV : List V → List V → List V) (sp : Sp) : Prop where
  ex : ∃ (fd : FuncData) (g : List Value → List Value → List Value), FnG P w K mg base CX k f fd ps sp ∧ KBn K fd ps n ks g gV
  kp : PySem.W.keepIn K (.ref f) = true
section
variable {X : Cx} {CX : CXT} {k j n : Nat} {f C : Addr} {x m : Str} {ps ks : List Str} {sp : Sp} {E : XK} {o e : Expr} {es : List Expr} {p pos apos : Pos} {t tk : TA} {ta : TE} {kws : List Keyword} {gV : List V → List V → List V}
theorem Gk.go {A : Around} {H : Hp} {s : Shared} {us ws : List Value} {vs zs : List V} {Q : VK} {outer : List Env} {P : Program} {w : World} {K : PySem.W.Frag} {mg : Str → Option Value} {base : Heap} (G : Gk P w K mg base CX k f ps n ks gV sp) (hr : RG j A) (hj : k ≤ j) (e0 : Env0 P w K mg base A outer s H) (KX : K.In s.heap)
    (r : Vals vs us) (rz : Vals zs ws) (l1 : vs.length = n) (l2 : zs.length = ks.length) (h : sp (gV vs zs) H Q E) :
    codeAny (model P w) A (.call (.ref f) ⟨us, ks.zip ws⟩) (CR CX outer P w H s Q E) s := by
  obtain ⟨fd, g, F, hb⟩ := G.ex
  exact F.run A outer s H ⟨us, ks.zip ws⟩ (g us ws) (gV vs zs) Q E (hr.mono hj) e0 (hb.to s us ws KX (r.length.symm.trans l1) (rz.length.symm.trans l2)) (hb.rel r rz) h
end
/-! str, repr of an own object; repr of data -/
section
variable {X : Cx} {CX : CXT} {k j : Nat} {f C : Addr} {ps : List Str} {sp : Sp}
end
end My

set_option Elab.async false
set_option linter.all false
set_option maxRecDepth 100000
set_option maxHeartbeats 4000000
/-! LayC: what a head tells of classes, as Bools -/
namespace My
open PySem PySem.Spec PyProof.Rows L2 He
/-- isinstance may be asked of the class's instances -/
structure InsOk (K : PySem.W.Frag) (C : Addr) : Prop where
  cl : Cls K C
  ha : PySem.W.findIn K (.ref C) "__class__" = some (some (.builtin "object.__class__"))
  hn : PySem.W.specialIn K (.builtin "object.__class__") "__get__" = some (some (.builtin "getset_descriptor.__get__"))
  htk : PySem.W.takesIn K (.builtin "object.__class__") = some true
  hm : PySem.W.mroIn K C (.type "object") = some true
theorem InsOk.ty {K : PySem.W.Frag} {H : Hp} {a C dx : Addr} {fs : List (Str × V)} (i : InsOk K C) (e : H a = some (.ins C dx fs)) : TyX K H (.ref a) (.ref C) := .base (.ins e i.cl i.ha i.hn i.htk i.hm)
def insB (K : PySem.W.Frag) (x : Str) : Bool := eqO (PySem.W.findIn K (.ref (ga K x)) "__class__") (some (some (.builtin "object.__class__"))) && (eqO (PySem.W.specialIn K (.builtin "object.__class__") "__get__") (some (some (.builtin "getset_descriptor.__get__"))) &&
  (decide (PySem.W.takesIn K (.builtin "object.__class__") = some true) && decide (PySem.W.mroIn K (ga K x) (.type "object") = some true)))
theorem insB_ok {K : PySem.W.Frag} {x : Str} (c : Cls K (ga K x)) (h : insB K x = true) : InsOk K (ga K x) := by
  obtain ⟨h1, h⟩ := ba h
  obtain ⟨h2, h⟩ := ba h
  obtain ⟨h3, h4⟩ := ba h
  exact ⟨c, eqO_ok h1, eqO_ok h2, of_decide_eq_true h3, of_decide_eq_true h4⟩
structure SpOk (K : PySem.W.Frag) (C : Addr) (m : Str) (f : Addr) : Prop where
  at_ : PySem.W.findIn K (.ref C) m = some (some (.ref f))
  fn : PySem.W.isFn K (.ref f) = true
def isiB (K : PySem.W.Frag) (t c : Value) (b : Bool) : Bool := decide (PySem.W.kitOne K t c = some b)
theorem isiB_ok {K : PySem.W.Frag} {t c : Value} {b : Bool} (h : isiB K t c b = true) : PySem.W.kitOne K t c = some b := of_decide_eq_true h
theorem mg_ok {K : PySem.W.Frag} {x : Str} (h : (Fa.mkr x).ok K = true) : Mg K (ga K x) (ma K (ga K x) "__init__") := by
  obtain ⟨h1, h⟩ := ba h
  obtain ⟨h2, h⟩ := ba h
  obtain ⟨h3, h4⟩ := ba h
  exact ⟨h1, eqO_ok h2, h3, h4⟩
end My

set_option Elab.async false
set_option linter.all false
set_option maxRecDepth 100000
set_option maxHeartbeats 4000000
/-! LayD: the law's end, where it is known that no repr is under way -/
namespace My
open PySem PySem.Spec PyProof.Rows L2
end My

set_option Elab.async false
set_option linter.all false
set_option maxRecDepth 100000
set_option maxHeartbeats 4000000
/-! LayE: heaps, lists, texts: steps -/
namespace My
open PySem PySem.Spec PyProof.Rows L2
/-- all but p stands -/
def But (p : Addr) (H H' : Hp) : Prop := ∀ q o, q ≠ p → H q = some o → H' q = some o
theorem But.at {p q : Addr} {H H' : Hp} {o : HO} (b : But p H H') (n : q ≠ p) (h : H q = some o) : H' q = some o := b q o n h
theorem But.rfl {p : Addr} {H : Hp} : But p H H := fun _ _ _ h => h
theorem But.trans {p : Addr} {H H1 H2 : Hp} (a : But p H H1) (b : But p H1 H2) : But p H H2 := fun q o n h => b q o n (a q o n h)
theorem But.new {p r : Addr} {H H1 : Hp} {u : HO} (a : But p H H1) (n : H1 r = none) : But p H (upd H1 r u) := fun q o m h => by
  have z := a q o m h
  rw [upd_ne (ne_of_none z n)]
  exact z
theorem But.put {p : Addr} {H H1 : Hp} {u : HO} (a : But p H H1) : But p H (upd H1 p u) := fun q o m h => by
  rw [upd_ne m]
  exact a q o m h
/-- an object that H does not know changes -/
theorem But.own {p r : Addr} {H H1 : Hp} {u : HO} (a : But p H H1) (n : H r = none) : But p H (upd H1 r u) := fun q o m h => by
  rw [upd_ne (ne_of_none h n)]
  exact a q o m h
theorem But.none {p r : Addr} {H H1 : Hp} (a : But p H H1) (n : H1 r = none) (m : r ≠ p) : H r = none := by
  cases q : H r with
  | none => rfl
  | some o =>
    rw [a r o m q] at n
    cases n
theorem Same.at {q : Addr} {H H' : Hp} {o : HO} (b : Same H H') (h : H q = some o) : H' q = some o := b q o h
theorem Same.but {p : Addr} {H H' : Hp} (b : Same H H') : But p H H' := fun q o _ h => b q o h
theorem Same.new {r : Addr} {H H1 : Hp} {u : HO} (a : Same H H1) (n : H1 r = none) : Same H (upd H1 r u) := fun q o h => by
  have z := a q o h
  rw [upd_ne (ne_of_none z n)]
  exact z
theorem Same.own {r : Addr} {H H1 : Hp} {u : HO} (a : Same H H1) (n : H r = none) : Same H (upd H1 r u) := fun q o h => by
  rw [upd_ne (ne_of_none h n)]
  exact a q o h
theorem But.sqL {K : PySem.W.Frag} {p a : Addr} {H H' : Hp} {xs : List V} (b : But p H H') (n : a ≠ p) (h : SqL K H a xs) : SqL K H' a xs := by
  rcases h with (h | ⟨o, h⟩) | h
  · exact .inl (.inl (b _ _ n h))
  · exact .inl (.inr ⟨o, b _ _ n h⟩)
  · exact .inr h
section
variable {K : PySem.W.Frag} {σ : L2.St} {H : Hp} {nx bk ct : L2.St → Hp → Prop} {rt : VK} {ta tb tc te tv : TE} {Q : VK} {t u : TS} {g : TG} {tA : TA} {c d : TT} {R : Bool → Hp → Prop} {RA : List V → Hp → Prop} {N : L2.St → Hp → Prop}
theorem r_ixL {p : Addr} {xs : List V} {i : Int} {v : V} (h : SqL K H p xs) (e : atI xs i = some v) (q : Q v H) : rIxL K (.ref p) (.int i) H Q := ⟨p, xs, i, v, rfl, rfl, h, e, q⟩
theorem r_ixT {p : Addr} {xs : List V} {i : Int} {v : V} (h : SqT K H p xs) (e : atI xs i = some v) (q : Q v H) : rIxT K (.ref p) (.int i) H Q := ⟨p, xs, i, v, rfl, rfl, h, e, q⟩
theorem r_setL {p : Addr} {xs : List V} {v : V} {k : Int} {j : Nat} {F : Hp → Prop} (h : H p = some (.lst xs)) (e : ixN xs.length k = some j) (q : F (upd H p (.lst (xs.set j v)))) : rSetL (.ref p) (.int k) v H F := ⟨p, xs, k, j, rfl, rfl, h, e, q⟩
theorem r_gtup {a : Addr} {xs : List V} {n : Nat} {tg : TGs} (h : SqT K H a xs) (e : xs.length = n) (q : tg xs σ H N) : gTup K n tg (.ref a) σ H N := ⟨a, xs, rfl, h, e, q⟩
theorem r_gcons {v : V} {r : List V} {tg : TG} {us : TGs} (q : tg v σ H fun σ' H' => us r σ' H' N) : gCons tg us (v :: r) σ H N := ⟨v, r, rfl, q⟩
theorem r_gnil (q : N σ H) : gNil [] σ H N := ⟨rfl, q⟩
theorem r_sl {r : V → Option Int → Option Int → Hp → VK → Prop} {tl th : TO} (h : te σ H fun x H1 => tl σ H1 fun l H2 => th σ H2 fun u H3 => r x l u H3 Q) : tSl r te tl th σ H Q := h
theorem r_nopart {F : Option Int → Hp → Prop} (h : F none H) : tNoPart σ H F := h
theorem r_part {F : Option Int → Hp → Prop} (h : te σ H fun x H1 => ∃ i, x = .int i ∧ F (some i) H1) : tPart te σ H F := h
theorem r_pint {i : Int} {F : Int → Prop} (h : F i) : ∃ j, V.int i = .int j ∧ F j := ⟨i, rfl, h⟩
theorem r_slL {p : Addr} {xs : List V} {lo hi : Option Int} (h : SqL K H p xs) (q : ∀ r, H r = none → Q (.ref r) (upd H r (.lst (cutV xs lo hi)))) : rSlL K (.ref p) lo hi H Q := ⟨p, xs, rfl, h, q⟩
theorem r_lenS {p : Addr} {xs : List V} {F : List V → Prop} (h : SqL K H p xs ∨ SqT K H p xs) (q : F xs) : ∃ a ys, ([V.ref p] : List V) = [.ref a] ∧ (SqL K H a ys ∨ SqT K H a ys) ∧ F ys := ⟨p, xs, rfl, h, q⟩
theorem r_len {xs : List V} {B : Prop} (h : xs.length ≤ sizeLine) (q : B) : xs.length ≤ sizeLine ∧ B := ⟨h, q⟩
theorem f_fld {f : Str} {a C dx : Addr} {fs : List (Str × V)} {v : V} {F : V → Prop} (h : H a = some (.ins C dx fs)) (c : Cls K C) (n : NoAttr K C f) (l : fs.lookup f = some v) (q : F v) :
    ∃ a' C' dx' fs' v', V.ref a = .ref a' ∧ H a' = some (.ins C' dx' fs') ∧ Cls K C' ∧ NoAttr K C' f ∧ fs'.lookup f = some v' ∧ F v' := ⟨a, C, dx, fs, v, rfl, h, c, n, l, q⟩
theorem r_tfld {f : Str} (h : ta σ H fun x H1 => ∃ a C dx fs v, x = .ref a ∧ H1 a = some (.ins C dx fs) ∧ Cls K C ∧ NoAttr K C f ∧ fs.lookup f = some v ∧ Q v H1) : tFld K ta f σ H Q := h
theorem r_isi_ii {F : VK} (q : F (.bl true) H) : rIsi K [.int i, .ty "int"] H F := ⟨_, _, _, _, true, rfl, .ty _, .base (.int i), kit_ty (by decide +kernel), q⟩
theorem r_isi_ib {F : VK} {i : Int} (q : F (.bl false) H) : rIsi K [.int i, .ty "bool"] H F := ⟨_, _, _, _, false, rfl, .ty _, .base (.int i), kit_ty (by decide +kernel), q⟩
theorem r_isi_ss {F : VK} {s : Str} (q : F (.bl true) H) : rIsi K [.str s, .ty "str"] H F := ⟨_, _, _, _, true, rfl, .ty _, .base (.str s), kit_ty (by decide +kernel), q⟩
theorem r_isi_own {F : VK} {a C C2 dx : Addr} {fs : List (Str × V)} {b : Bool} (h : H a = some (.ins C dx fs)) (i : InsOk K C) (k : PySem.W.kitOne K (.ref C) (.ref C2) = some b) (q : F (.bl b) H) : rIsi K [.ref a, .ref C2] H F := ⟨_, _, _, _, b, rfl, .own _, i.ty h, k, q⟩
theorem r_make {C : Addr} {sp : Sp} {dvs : List V} {E : XK} (h : tA σ H fun vs H1 => ∀ x dx, H1 x = none → H1 dx = none → dx ≠ x → sp (.ref x :: (vs ++ dvs)) (upd (upd H1 dx (.own x)) x (.ins C dx [])) (fun v H2 => v = .non ∧ Q (.ref x) H2) E) : tMake C sp dvs E tA σ H Q := h
theorem r_makeL {i : Nat} {C : Addr} {sp : Sp} {dvs : List V} {E : XK} (e : σ[i]? = some (some (.ref C))) (h : tMake C sp dvs E tA σ H Q) : tMakeL i C sp dvs E tA σ H Q := ⟨e, h⟩
end
section
theorem r_pow {i j z : Int} {H : Hp} {Q : VK} (hc : CPow i j) (e : i ^ j.toNat = z) (q : Q (.int z) H) : rI CPow (fun i j => .int (i ^ j.toNat)) (.int i) (.int j) H Q := by
  subst e
  exact r_i hc q
end
/-! loops -/
/-- what is left of a for once it is known what is walked -/
def LoopG (J : It) (g : TG) (tb : TS) (D : Ends) (σ : L2.St) (H : Hp) : Prop := tFor (fun _ H R => R J H) g tb D σ H
section
variable {K : PySem.W.Frag} {σ : L2.St} {H : Hp} {nx bk ct : L2.St → Hp → Prop} {rt : VK} {tl : TE} {tb : TS} {g : TG} {tA : TA} {c : TT}
theorem r_forR1 (h : tA σ H fun vs H1 => ∃ j : Int, vs = [.int j] ∧ -(2 ^ 62) ≤ j ∧ j < 2 ^ 62 ∧ LoopG (Itr 0 j.toNat) g tb ⟨nx, rt, bk, ct⟩ σ H1) : tFor (iRng1 tA) g tb ⟨nx, rt, bk, ct⟩ σ H := h
theorem r_forR2 (h : tA σ H fun vs H1 => ∃ i j : Int, vs = [.int i, .int j] ∧ (-(2 ^ 62) ≤ i ∧ i < 2 ^ 62 ∧ -(2 ^ 62) ≤ j ∧ j < 2 ^ 62) ∧ LoopG (Itr i (j - i).toNat) g tb ⟨nx, rt, bk, ct⟩ σ H1) : tFor (iRng2 tA) g tb ⟨nx, rt, bk, ct⟩ σ H := h
theorem r_forL (h : tl σ H fun x H1 => ∃ a, x = .ref a ∧ (∃ xs, SqL K H1 a xs) ∧ LoopG (Itl K a) g tb ⟨nx, rt, bk, ct⟩ σ H1) : tFor (iList K tl) g tb ⟨nx, rt, bk, ct⟩ σ H := h
theorem r_forT (h : tl σ H fun x H1 => ∃ a, x = .ref a ∧ (∃ xs, SqT K H1 a xs) ∧ LoopG (Itt K a) g tb ⟨nx, rt, bk, ct⟩ σ H1) : tFor (iTup K tl) g tb ⟨nx, rt, bk, ct⟩ σ H := h
theorem r_ref1 {p : Addr} {F : Addr → Prop} (h : F p) : ∃ a, V.ref p = .ref a ∧ F a := ⟨p, rfl, h⟩
end
theorem call_divmodA {X : Cx} : CallR X (.builtin "divmod") (fun xs H Q => ∃ i j, xs = [.int i, .int j] ∧ CDivW i j ∧ ∀ p, H p = none → Q (.ref p) (upd H p (.tup [.int (i / j), .int (i % j)]))) := by
  intro pins s σ H xs us Q I r h
  obtain ⟨i, j, rfl, hc, q⟩ := h
  exact call_divmodW pins s σ H _ us Q I r ⟨i, j, rfl, ⟨hc.1, PyProof.noPylong_of_log2 hc.2⟩, q⟩
/-- a product one of whose factors is below 2 ^ 64 -/
theorem ml {i j : Int} (h1 : -(2 ^ 64) < i) (h2 : i < 2 ^ 64) : IntMulOk i j := CMul.ok (.inl ⟨h1, h2⟩)
theorem mr {i j : Int} (h1 : -(2 ^ 64) < j) (h2 : j < 2 ^ 64) : IntMulOk i j := CMul.ok (.inr ⟨h1, h2⟩)
theorem sz {n : Nat} (h : n ≤ 1000) : n ≤ sizeLine := Nat.le_trans h (by decide)
theorem szl {n : Nat} (h : n ≤ 1000) : n < sizeLine := Nat.lt_of_le_of_lt h (by decide)
/-- a divisor below 2 ^ 60 -/
theorem dv {i j : Int} (h1 : 0 < j) (h2 : j < 2 ^ 60) : CDivW i j := wide_div (b := 60) h1 (by omega) (by decide) (by decide)
end My

set_option Elab.async false
set_option linter.all false
set_option maxRecDepth 100000
set_option maxHeartbeats 4000000
/-! LayF: sizes of ints, texts of ints, more steps, comparisons of data, list comprehensions -/
namespace My
open PySem PySem.Builtin PySem.Builtin.Str PySem.Spec PyProof.Rows L2 SX
/-! ### sizes -/
def Bd (b : Nat) (i : Int) : Prop := i.natAbs < 2 ^ b
theorem Bd.of {b : Nat} {i : Int} (h1 : -(2 ^ b) < i) (h2 : i < 2 ^ b) : Bd b i := by
  have e : ((2 : Nat) ^ b : Int) = (2 : Int) ^ b := rfl
  unfold Bd
  have z : ((2 ^ b : Nat) : Int) = (2 : Int) ^ b := by push_cast; rfl
  omega
theorem Bd.mono {a b : Nat} {i : Int} (h : Bd a i) (hab : a ≤ b) : Bd b i := Nat.lt_of_lt_of_le h (Nat.pow_le_pow_right (by decide) hab)
theorem Bd.mul {a b : Nat} {i j : Int} (h : Bd a i) (k : Bd b j) : Bd (a + b) (i * j) := by
  unfold Bd at *
  rw [Int.natAbs_mul, Nat.pow_add]
  exact Nat.mul_lt_mul_of_lt_of_le h (Nat.le_of_lt k) (Nat.pow_pos (by decide))
theorem Bd.add {a b : Nat} {i j : Int} (h : Bd a i) (k : Bd b j) : Bd (a + b + 1) (i + j) := by
  unfold Bd at *
  have h1 : (2 : Nat) ^ a ≤ 2 ^ (a + b) := Nat.pow_le_pow_right (by decide) (by omega)
  have h2 : (2 : Nat) ^ b ≤ 2 ^ (a + b) := Nat.pow_le_pow_right (by decide) (by omega)
  have h3 : (2 : Nat) ^ (a + b + 1) = 2 ^ (a + b) * 2 := Nat.pow_succ ..
  omega
theorem Bd.neg {a : Nat} {i : Int} (h : Bd a i) : Bd a (-i) := by
  unfold Bd at *
  rw [Int.natAbs_neg]
  exact h
theorem Bd.sub {a b : Nat} {i j : Int} (h : Bd a i) (k : Bd b j) : Bd (a + b + 1) (i - j) := by
  rw [Int.sub_eq_add_neg]
  exact h.add k.neg
theorem Bd.le {a : Nat} {i j : Int} (h : Bd a i) (k : j.natAbs ≤ i.natAbs) : Bd a j := Nat.lt_of_le_of_lt k h
theorem Bd.mulOk {a b : Nat} {i j : Int} (h : Bd a i) (k : Bd b j) (h0 : 0 < a) (h1 : 0 < b) (hs : a + b ≤ 1000000) : IntMulOk i j := CMulW.ok (wide_mul h k h0 h1 hs)
theorem Bd.div {b : Nat} {i j : Int} (h : Bd b j) (hp : 0 < j) (h0 : 0 < b) (h9 : b ≤ 9000) : CDivW i j := wide_div hp h h0 h9
theorem Bd.lg {b : Nat} {i : Int} (h : Bd b i) (h0 : 0 < b) (h9 : b ≤ 1920) : i.natAbs.log2 < 1920 := Nat.lt_of_lt_of_le (PySem.Flt.log2_lt_of h0 h) h9
/-! ### texts of ints -/
def intL (i : Int) : List Nat := if i < 0 then 45 :: TL.numL i.natAbs else TL.numL i.natAbs
theorem intL_neg {i : Int} (h : i < 0) : intL i = 45 :: TL.numL i.natAbs := if_pos h
theorem intL_nn {i : Int} (h : ¬ i < 0) : intL i = TL.numL i.natAbs := if_neg h
theorem txt_int (i : Int) : Str.ofString (toString i) = S (intL i) := by
  by_cases h : i < 0
  · obtain ⟨n, rfl⟩ : ∃ n : Nat, i = Int.negSucc n := by
      cases i with
      | ofNat n => exact absurd h (by simp)
      | negSucc n => exact ⟨n, rfl⟩
    rw [intL_neg h]
    refine TL.ext_tl ?_
    rw [TL.tl_ofString]
    have e : toString (Int.negSucc n) = "-" ++ toString (n + 1) := rfl
    rw [e, String.toList_append, List.map_append]
    have e2 := TL.tl_num (n + 1)
    rw [TL.tl_ofString] at e2
    have e3 : toString (((n + 1 : Nat)) : Int) = toString (n + 1) := rfl
    rw [e3] at e2
    rw [e2]
    rfl
  · obtain ⟨n, rfl⟩ := Int.eq_ofNat_of_zero_le (Int.not_lt.mp h)
    rw [intL_nn h, num_S, Int.natAbs_natCast]
theorem intL_len {k : Nat} {i : Int} (hk : 0 < k) (h1 : -(10 ^ k) < i) (h2 : i < 10 ^ k) : (intL i).length ≤ k + 1 := by
  have z : ((10 ^ k : Nat) : Int) = (10 : Int) ^ k := by push_cast; rfl
  have hn : i.natAbs < 10 ^ k := by omega
  have l := TL.numL_len hk hn
  unfold intL
  split
  · rw [List.length_cons]
    omega
  · omega
theorem intL_free {i : Int} {s : Nat} (h : s < 48 ∨ 57 < s) (h2 : s ≠ 45) : s ∉ intL i := by
  unfold intL
  split
  · intro z
    rcases List.mem_cons.mp z with z | z
    · exact h2 z
    · exact TL.numL_free h z
  · exact TL.numL_free h
theorem cat_S (a b : Str) : a ++ b = S (a.cps.toList ++ b.cps.toList) := TL.ext_tl (TL.tl_append a b)
theorem lcat (a b : Str) : (a ++ b).length = a.length + b.length := by
  rw [cat_S, S_len, List.length_append]
  rfl
theorem at_new {H : Hp} {a l : Addr} {o u : HO} (n : H l = none) (h : H a = some o) : upd H l u a = some o := (upd_ne (ne_of_none h n)).trans h
theorem at_or {H : Hp} {a l : Addr} {o u : HO} (h : H a = some o) (n : H l = none ∨ a ≠ l) : upd H l u a = some o := n.elim (fun n => at_new n h) fun n => (upd_ne n).trans h
/-! ### more steps -/
section
variable {K : PySem.W.Frag} {σ : L2.St} {H : Hp} {nx bk ct : L2.St → Hp → Prop} {rt : VK} {ta tb tc te tv tl : TE} {Q : VK} {t u : TS} {g : TG} {tA tk : TA} {c d : TT} {R : Bool → Hp → Prop} {RA : List V → Hp → Prop} {N : L2.St → Hp → Prop} {C : Addr} {sp : Sp} {dvs : List V} {E : XK}
theorem r_fmt (h : te σ H fun x H1 => (∃ y : Str, x = .str y ∧ y.length ≤ sizeLine ∧ Q (.str y) H1) ∨ ∃ i : Int, x = .int i ∧ i.natAbs.log2 < 1920 ∧ Q (.str (toString i)) H1) : tFmt te σ H Q := h
theorem r_fmti {i : Int} {A : Prop} {F : Int → Prop} (h : i.natAbs.log2 < 1920) (q : F i) : A ∨ ∃ j : Int, V.int i = .int j ∧ j.natAbs.log2 < 1920 ∧ F j := .inr ⟨i, rfl, h, q⟩
theorem r_js0 {acc : Str} {F : Str → Hp → Prop} (h : F acc H) : tJs [] acc σ H F := h
theorem r_js {ts : List TE} {acc : Str} {F : Str → Hp → Prop} (h : te σ H fun x H1 => ∃ y : Str, x = .str y ∧ (acc ++ y).length ≤ sizeLine ∧ tJs ts (acc ++ y) σ H1 F) : tJs (te :: ts) acc σ H F := h
theorem r_jsp {acc y : Str} {F : Str → Prop} (h : (acc ++ y).length ≤ 1000) (q : F y) : ∃ z : Str, V.str y = .str z ∧ (acc ++ z).length ≤ sizeLine ∧ F z := ⟨y, rfl, sz h, q⟩
theorem r_strI {i : Int} {F : Int → Prop} (h : i.natAbs.log2 < 1920) (q : F i) : ∃ j : Int, ([V.int i] : List V) = [.int j] ∧ j.natAbs.log2 < 1920 ∧ F j := ⟨i, rfl, h, q⟩
theorem r_m0 {r : V → List V → Hp → VK → Prop} (h : ta σ H fun x H1 => (∃ a, x = .str a) ∧ r x [] H1 Q) : tM0 r ta σ H Q := h
theorem r_m1 {r : V → List V → Hp → VK → Prop} (h : ta σ H fun x H1 => (∃ a, x = .str a) ∧ tb σ H1 fun y H2 => r x [y] H2 Q) : tM1 r ta tb σ H Q := h
theorem r_str {a : Str} {B : Prop} (h : B) : (∃ b, V.str a = .str b) ∧ B := ⟨⟨a, rfl⟩, h⟩
theorem r_ss {a b : Str} {F : Str → Str → Prop} (h : F a b) : ∃ x y, V.str a = .str x ∧ ([V.str b] : List V) = [.str y] ∧ F x y := ⟨a, b, rfl, rfl, h⟩
theorem r_s0 {a : Str} {F : Str → Prop} (h : F a) : ∃ x, V.str a = .str x ∧ ([] : List V) = [] ∧ True ∧ F x := ⟨a, rfl, rfl, trivial, h⟩
theorem r_addS {a b : Str} {F : Str → Str → Prop} (h : a.length + b.length ≤ 1000) (q : F a b) : ∃ x y, V.str a = .str x ∧ V.str b = .str y ∧ x.length + y.length ≤ sizeLine ∧ F x y := ⟨a, b, rfl, rfl, sz h, q⟩
theorem r_slS {z : Str} {lo hi : Option Int} (h : z.length ≤ 1000) (q : Q (.str (cutS z lo hi)) H) : rSlS (.str z) lo hi H Q := ⟨z, rfl, sz h, q⟩
theorem r_lenT {z : Str} {F : Str → Prop} (h : z.length ≤ 1000) (q : F z) : ∃ y, ([V.str z] : List V) = [.str y] ∧ y.length ≤ sizeLine ∧ F y := ⟨z, rfl, sz h, q⟩
theorem r_tprop (h : ta σ H fun x H1 => ∃ a dx fs, x = .ref a ∧ H1 a = some (.ins C dx fs) ∧ sp (.ref a :: dvs) H1 Q E) : tProp C sp dvs E ta σ H Q := h
theorem f_prop {a dx : Addr} {fs : List (Str × V)} {F : Addr → Prop} (h : H a = some (.ins C dx fs)) (q : F a) : ∃ a' dx' fs', V.ref a = .ref a' ∧ H a' = some (.ins C dx' fs') ∧ F a' := ⟨a, dx, fs, rfl, h, q⟩
theorem r_tcm (h : ta σ H fun x H1 => x = .ref C ∧ tA σ H1 fun vs H2 => sp (.ref C :: vs) H2 Q E) : ClX.tCMeth C sp E ta tA σ H Q := h
theorem r_rr {v : V} {B : Prop} (h : B) : v = v ∧ B := ⟨rfl, h⟩
theorem r_makeK {n m : Nat} {gV : List V → List V → List V} (h : tA σ H fun vs H1 => tk σ H1 fun zs H2 => vs.length = n ∧ zs.length = m ∧ ∀ x dx, H2 x = none → H2 dx = none → dx ≠ x → sp (gV (.ref x :: vs) zs) (upd (upd H2 dx (.own x)) x (.ins C dx [])) (fun v H3 => v = .non ∧ Q (.ref x) H3) E) : tMakeK C n m sp gV E tA tk σ H Q := h
theorem f_str {y : Str} {H : Hp} (q : Q (.str y) H) : ∃ z : Str, V.str y = .str z ∧ Q (.str y) H := ⟨y, rfl, q⟩
theorem r_sfld {f : Str} (h : tv σ H fun y H1 => ta σ H1 fun x H2 => ∃ a C dx fs, x = .ref a ∧ H2 a = some (.ins C dx fs) ∧ Cls K C ∧ NoAttr K C f ∧ fs.length < 1000 ∧ nx σ (upd H2 a (.ins C dx (putF f y fs)))) : sFld K ta tv f ⟨nx, rt, bk, ct⟩ σ H := h
theorem f_sfld {f : Str} {a dx : Addr} {fs : List (Str × V)} {F : Addr → Addr → Addr → List (Str × V) → Prop} (h : H a = some (.ins C dx fs)) (c : Cls K C) (n : NoAttr K C f) (l : fs.length < 1000) (q : F a C dx fs) :
    ∃ a' C' dx' fs', V.ref a = .ref a' ∧ H a' = some (.ins C' dx' fs') ∧ Cls K C' ∧ NoAttr K C' f ∧ fs'.length < 1000 ∧ F a' C' dx' fs' := ⟨a, C, dx, fs, rfl, h, c, n, l, q⟩
theorem r_inT {p : Addr} {xs : List V} {v : V} {neg : Bool} (h : SqT K H p xs) (f : (flatV v && xs.all flatV) = true) (e : (if neg then !inV v xs else inV v xs) = true) (q : Q (.bl true) H) : rIn K neg v (.ref p) H Q := by
  rw [Bool.and_eq_true] at f
  exact ⟨p, xs, rfl, .inr h, f.1, f.2, by rw [e]; exact q⟩
theorem r_inF {p : Addr} {xs : List V} {v : V} {neg : Bool} (h : SqT K H p xs) (f : (flatV v && xs.all flatV) = true) (e : (if neg then !inV v xs else inV v xs) = false) (q : Q (.bl false) H) : rIn K neg v (.ref p) H Q := by
  rw [Bool.and_eq_true] at f
  exact ⟨p, xs, rfl, .inr h, f.1, f.2, by rw [e]; exact q⟩
/-! list comprehensions over a list -/
/-- what is left of a list comprehension once it is known what is walked -/
def LcG (J : It) (g : TG) (tt : TT) (te : TE) (vs : List Nat) (σ : L2.St) (H : Hp) (Q : VK) : Prop := tLc (fun _ H R => R J H) g tt te vs σ H Q
theorem r_lcL {tt : TT} {vs : List Nat} (h : tl σ H fun x H1 => ∃ a, x = .ref a ∧ (∃ xs, SqL K H1 a xs) ∧ LcG (Itl K a) g tt te vs σ H1 Q) : tLc (iList K tl) g tt te vs σ H Q := h
theorem r_lcT {tt : TT} {vs : List Nat} (h : tl σ H fun x H1 => ∃ a, x = .ref a ∧ (∃ xs, SqT K H1 a xs) ∧ LcG (Itt K a) g tt te vs σ H1 Q) : tLc (iTup K tl) g tt te vs σ H Q := h
theorem r_lcR1 {tt : TT} {vs : List Nat} (h : tA σ H fun ws H1 => ∃ j : Int, ws = [.int j] ∧ -(2 ^ 62) ≤ j ∧ j < 2 ^ 62 ∧ LcG (Itr 0 j.toNat) g tt te vs σ H1 Q) : tLc (iRng1 tA) g tt te vs σ H Q := h
theorem r_lcR2 {tt : TT} {vs : List Nat} (h : tA σ H fun ws H1 => ∃ i j : Int, ws = [.int i, .int j] ∧ (-(2 ^ 62) ≤ i ∧ i < 2 ^ 62 ∧ -(2 ^ 62) ≤ j ∧ j < 2 ^ 62) ∧ LcG (Itr i (j - i).toNat) g tt te vs σ H1 Q) : tLc (iRng2 tA) g tt te vs σ H Q := h
theorem r_bl1 {b : Bool} {F : Bool → Prop} (h : F b) : ∃ k, ([V.bl b] : List V) = [.bl k] ∧ F k := ⟨b, rfl, h⟩
theorem r_yes {R : Bool → Hp → Prop} (h : R true H) : tYes σ H R := h
theorem r_chain {r r' : R2} (h : ta σ H fun x H1 => tb σ H1 fun y H2 => r x y H2 fun z H3 => ∃ k, z = .bl k ∧ (if k = true then tc σ H3 fun w' H4 => r' y w' H4 Q else Q (.bl false) H3)) : tChain r r' ta tb tc σ H Q := h
end
end My
namespace My
open PySem PySem.Spec PyProof.Rows L2
theorem ni_non {i : Int} : ¬ (V.int i = V.non) := fun h => V.noConfusion h
end My

/-! ### readings whose Frag is written out: within a comprehension's block, too -/
namespace My
open PySem PySem.Spec PyProof.Rows L2
section
variable {K : PySem.W.Frag} {X : Cx}
theorem call_lenK (h : X.K = K) : CallR X (.builtin "len") (fun xs H Q => ∃ p ys, xs = [.ref p] ∧ (SqL K H p ys ∨ SqT K H p ys) ∧ Q (.int ys.length) H) := by subst h; exact call_len_seq
theorem call_listK (h : X.K = K) : CallR X (.type "list") (fun xs H Q => ∃ p ys, xs = [.ref p] ∧ (SqL K H p ys ∨ SqT K H p ys) ∧ ∀ l, H l = none → Q (.ref l) (upd H l (.lst ys))) := by subst h; exact call_list_of
theorem call_tupleK (h : X.K = K) : CallR X (.type "tuple") (fun xs H Q => ∃ p ys, xs = [.ref p] ∧ ((SqL K H p ys ∧ ∀ l, H l = none → Q (.ref l) (upd H l (.tup ys))) ∨ (SqT K H p ys ∧ Q (.ref p) H))) := by subst h; exact call_tuple_of
theorem ix_listK (h : X.K = K) : IxR X (rIxL K) := by subst h; exact ix_list
theorem ix_tupK (h : X.K = K) : IxR X (rIxT K) := by subst h; exact ix_tup
theorem sl_listK (h : X.K = K) : SlR X (rSlL K) := by subst h; exact sl_list
theorem op_eqDK (h : X.K = K) (hu : X.A.units + 64 < cLine) : OpR X (compareOp .Eq) (rEqD K) := by subst h; exact op_eqD hu
theorem op_neDK (h : X.K = K) (hu : X.A.units + 64 < cLine) : OpR X (compareOp .NotEq) (rNeD K) := by subst h; exact op_neD hu
end
end My

set_option Elab.async false
set_option linter.all false
set_option maxRecDepth 100000
set_option maxHeartbeats 4000000
/-! LayG: operators of own classes, also with ints on either side -/
namespace My
open PySem PySem.Spec PyProof.Rows L2 He
section
variable (a : Int) (t : Tok) (l C dx : Addr)
end
/-- an operator of int that declines an instance of an own class -/
structure DecB (op : Operator) : Prop where
  ex : ∃ (id : String) (B : Builtin), Slot "int" (PySem.dunder op.info.2) id ∧ fillsNumberSlot (.type "int") op.info.2 = pure true ∧ entryFor table id = some B ∧ (∀ (a : Int) (t : Tok) (l : Addr), argsOk id ⟨[.int a t, .ref l], []⟩) ∧
    ∀ (a : Int) (t : Tok) (l C dx : Addr), Meets (B ⟨[.int a t, .ref l], []⟩) (fun _ R s => s.heap.get? l = some (PySem.W.instObj C dx) ∧ R (.ok (.ret Value.notImplemented)) s)
structure DecC (op : CmpOp) : Prop where
  ex : ∃ (id : String) (B : Builtin), Slot "int" (cmpInfo op).2.1 id ∧ entryFor table id = some B ∧ (∀ (a : Int) (t : Tok) (l : Addr), argsOk id ⟨[.int a t, .ref l], []⟩) ∧
    ∀ (a : Int) (t : Tok) (l C dx : Addr), Meets (B ⟨[.int a t, .ref l], []⟩) (fun _ R s => s.heap.get? l = some (PySem.W.instObj C dx) ∧ R (.ok (.ret Value.notImplemented)) s)
/-! the rules -/
namespace Own
open PySem.W PySem.Calls
section
variable {prog : Program} {w : World} {A : Around} {E : Value → Shared → Prop} {s : Shared} {K : Frag} {x C L f fd dx : Addr} {h₀ : Heap} {m : Str → Option Value} {ox : Obj} {od : Option Obj}
end
end Own
/-! the readings -/
structure OwOk (K : PySem.W.Frag) (C : Addr) : Prop where
  first : PySem.W.selfFirst K C = true
  sub1 : PySem.W.subIn K (.type "int") (.ref C) = some false
  sub2 : PySem.W.subIn K (.ref C) (.type "int") = some false
  fi : ∀ n ∈ ([PySem.dunder "add", PySem.dunder "sub", PySem.dunder "mul", dunderR "add", dunderR "sub", dunderR "mul"] : List Str), ∃ fo, PySem.W.findIn K (.type "int") n = some fo
section
variable {X : Cx} {k j : Nat} {f g C : Addr} {ps qs : List Str} {sp : Sp} {n m : Str}
theorem back {pins : List (Addr × Obj)} {σ : L2.St} {Q : VK} {v : Value} {s' : Shared} (z : EP X pins σ Q v s') : PySem.W.CmpBack (EP X pins σ Q) v s' := by
  obtain ⟨z', H', I', rz, qz⟩ := z
  exact SlX.cmpback rz ⟨z', H', I', rz, qz⟩
end
section
variable {K : PySem.W.Frag} {C : Addr} {sp : Sp} {H : Hp} {Q : VK}
end
end My

set_option Elab.async false
set_option linter.all false
set_option maxRecDepth 100000
set_option maxHeartbeats 4000000
/-! LayH: != of a class with its own __eq__ -/
namespace My
open PySem PySem.Spec PyProof.Rows L2 He
namespace Own
open PySem.W PySem.Calls
section
variable {prog : Program} {w : World} {A : Around} {E : Value → Shared → Prop} {s : Shared} {K : Frag} {x C L f : Addr} {h₀ : Heap} {m : Str → Option Value} {ox : Obj} {od : Option Obj} {b tb : Value}
end
end Own
/-! the readings -/
structure NeOk (K : PySem.W.Frag) (C : Addr) : Prop where
  ne : PySem.W.findIn K (.ref C) "__ne__" = some (some (.builtin "object.__ne__"))
  ob : PySem.W.subIn K (.ref C) (.type "object") = some true
def neB (K : PySem.W.Frag) (x : Str) : Bool := eqO (PySem.W.findIn K (.ref (ga K x)) "__ne__") (some (some (.builtin "object.__ne__"))) && decide (PySem.W.subIn K (.ref (ga K x)) (.type "object") = some true)
/-- the own == answers by a truth value, != by the other one -/
def turned (Q : VK) : VK := fun v H' => ∃ c, v = .bl c ∧ Q (.bl (!c)) H'
section
variable {X : Cx} {k j : Nat} {f C : Addr} {ps : List Str} {sp : Sp}
/-- one of three readings of an operator -/
def r3 (r1 r2 r3 : R2) : R2 := fun x y H Q => r1 x y H Q ∨ r2 x y H Q ∨ r3 x y H Q
end
end My

set_option Elab.async false
set_option linter.all false
set_option maxRecDepth 100000
set_option maxHeartbeats 4000000
/-! LayI: other kinds of values beside an instance of an own class -/
namespace My
open PySem PySem.Spec PyProof.Rows L2 He
section
variable (l C dx : Addr)
end
/-! the rule: v == own, v declines -/
namespace Own
open PySem.W PySem.Calls
section
variable {prog : Program} {w : World} {A : Around} {E : Value → Shared → Prop} {s : Shared} {K : Frag} {x C L f : Addr} {h₀ : Heap} {m : Str → Option Value} {ox : Obj} {od : Option Obj} {v : Value} {T id : String}
end
end Own
/-! kinds of values -/
inductive Kd (H : Hp) : V → String → Prop where
  | bl (b : Bool) : Kd H (.bl b) "bool"
  | non : Kd H .non "NoneType"
  | str (x : Str) : Kd H (.str x) "str"
  | lst {a : Addr} {xs : List V} (e : H a = some (.lst xs)) : Kd H (.ref a) "list"
  | tup {a : Addr} {xs : List V} (e : H a = some (.tup xs)) : Kd H (.ref a) "tuple"
  | dct {a : Addr} {kvs : List (Key × V)} (e : H a = some (.dK kvs)) : Kd H (.ref a) "dict"
theorem Kd.ty {K : PySem.W.Frag} {H : Hp} {x : V} {T : String} (k : Kd H x T) : TyX K H x (.type T) := by
  cases k with
  | bl b => exact .base (.bl b)
  | non => exact .base .non
  | str x => exact .base (.str x)
  | lst e => exact .base (.lst e)
  | tup e => exact .base (.tup e)
  | dct e => exact .base (.dK e)
def kinds : List String := ["bool", "NoneType", "str", "list", "tuple", "dict"]
theorem Kd.mem {H : Hp} {x : V} {T : String} (k : Kd H x T) : T ∈ kinds := by cases k <;> decide
section
variable {X : Cx} {pins : List (Addr × Obj)} {σ : L2.St} {H : Hp} {s : Shared}
end
/-! the readings -/
structure KdOk (K : PySem.W.Frag) (C : Addr) : Prop where
  one : ∀ T ∈ kinds, PySem.W.subIn K (.ref C) (.type T) = some false
  two : ∀ T ∈ kinds, PySem.W.subIn K (.type T) (.ref C) = some false
section
variable {X : Cx} {k j : Nat} {f C : Addr} {ps : List Str} {sp : Sp}
end
end My

set_option Elab.async false
set_option linter.all false
set_option maxRecDepth 100000
set_option maxHeartbeats 4000000
/-! LayJ: comprehensions by what they gather, append, pop, reversed ranges and slices -/
namespace My
open PySem PySem.Builtin PySem.Builtin.Str PySem.Spec PyProof.Rows L2 SX
theorem tupS {K : PySem.W.Frag} {H H' : Hp} {a : Addr} {xs : List V} (h : SqT K H a xs) (e : Same H H') : SqT K H' a xs :=
  h.elim (fun h => .inl (h.elim (fun h => .inl (e _ _ h)) fun ⟨o, h⟩ => .inr ⟨o, e _ _ h⟩)) fun h => .inr h
section
variable {K : PySem.W.Frag} {σ : L2.St} {H : Hp} {nx bk ct : L2.St → Hp → Prop} {rt : VK} {ta tb tc te tv tl : TE} {Q : VK} {g : TG} {tA : TA} {tt : TT} {vs : List Nat} {ts : TS}
theorem r_tbm {T : String} {r : V → List V → Hp → VK → Prop} (h : ta σ H fun x H1 => tyV K T x H1 ∧ tA σ H1 fun xs H2 => r x xs H2 Q) : tBM K T r ta tA σ H Q := h
theorem r_tbm0 {T : String} {r : V → List V → Hp → VK → Prop} (h : ta σ H fun x H1 => tyV K T x H1 ∧ r x [] H1 Q) : tBM0 K T r ta σ H Q := h
theorem f_tyL {a : Addr} {xs : List V} {B : Prop} (h : H a = some (.lst xs)) (q : B) : tyV K "list" (.ref a) H ∧ B := ⟨.inl ⟨rfl, xs, SqL.of h⟩, q⟩
theorem r_app {l : Addr} {xs : List V} {y : V} (h : H l = some (.lst xs)) (n : xs.length ≤ 1000) (q : Q .non (upd H l (.lst (xs ++ [y])))) : rAppend (.ref l) [y] H Q := ⟨l, xs, y, rfl, rfl, h, szl n, q⟩
theorem r_tRev (h : te σ H fun x H1 => ∃ a xs, x = .ref a ∧ SqL K H1 a xs ∧ ∀ p, H1 p = none → Q (.ref p) (upd H1 p (.lst xs.reverse))) : tRevL K te σ H Q := h
/-- a for over reversed(range(n)) -/
def RvF (n : Int) (g : TG) (ts : TS) (D : Ends) (σ : L2.St) (H : Hp) : Prop := -(2 ^ 62) ≤ (0 : Int) ∧ (0 : Int) < 2 ^ 62 ∧ -(2 ^ 62) ≤ n ∧ n < 2 ^ 62 ∧ LoopG (Itc (0 + (((n - 0).toNat : Nat) : Int) - 1) (-1) (n - 0).toNat) g ts D σ H
theorem r_forRV {te : TE} (h : te σ H fun x H1 => ∃ n : Int, x = .int n ∧ RvF n g ts ⟨nx, rt, bk, ct⟩ σ H1) : tFor (iRevR (tRg1 te)) g ts ⟨nx, rt, bk, ct⟩ σ H := h
theorem r_memI {K : PySem.W.Frag} {a : Addr} {rs : List Int} {t : Int} {H : Hp} {Q : VK} (h : SqL K H a (rs.map V.int)) (q : Q (.bl (decide (t ∈ rs))) H) : rIn K false (.int t) (.ref a) H Q := by
  refine ⟨a, _, rfl, .inl h, rfl, ?_, ?_⟩
  · rw [List.all_eq_true]
    intro x hx
    obtain ⟨z, _, rfl⟩ := List.mem_map.mp hx
    rfl
  · have e : inV (.int t) (rs.map V.int) = decide (t ∈ rs) := by
      unfold inV
      rw [List.any_map]
      by_cases m : t ∈ rs
      · rw [decide_eq_true m, List.any_eq_true]
        exact ⟨t, m, by show (t == t) = true; simp⟩
      · rw [decide_eq_false m, List.any_eq_false]
        intro x hx
        show ¬ (x == t) = true
        simp
        intro z
        exact m (z ▸ hx)
    show Q (.bl (inV (.int t) (rs.map V.int))) H
    rw [e]
    exact q
theorem r_eqB {a b : Bool} {H : Hp} {Q : VK} (q : Q (.bl (decide (a = b))) H) : rEq (.bl a) (.bl b) H Q := ⟨rfl, by
  have e : decide (V.bl a = V.bl b) = decide (a = b) := by
    rw [decide_eq_decide]
    exact ⟨fun z => V.bl.inj z, fun z => by rw [z]⟩
  rw [e]
  exact q⟩
end
end My

set_option Elab.async false
set_option linter.all false
set_option maxRecDepth 100000
set_option maxHeartbeats 4000000
/-! LayK0: own error classes over ValueError, LookupError or ArithmeticError: made, their fields set -/
namespace My
open PySem PySem.Spec PyProof.Rows L2 He
/-! ### the classes above -/
/-- own classes, then the list tl -/
def ownThen (tl : List Value) : List Value → Bool
  | .ref _ :: r => ownThen tl r
  | l => l == tl
theorem ownThen_two {tl : List Value} {l : List Value} (e : ownThen tl l = true) : (∃ c r, l = .ref c :: r ∧ ownThen tl r = true) ∨ l = tl := by
  unfold ownThen at e
  split at e
  · exact .inl ⟨_, _, rfl, e⟩
  · exact .inr (eq_of_beq e)
theorem ownThen_in {tl : List Value} (B : String) : ∀ l : List Value, ownThen tl l = true → l.contains (.type B) = tl.contains (.type B)
  | [], e => by
    rcases ownThen_two e with ⟨c, r, q, _⟩ | q
    · cases q
    · rw [q]
  | a :: r, e => by
    rcases ownThen_two e with ⟨c, r2, q, h⟩ | q
    · obtain ⟨e1, e2⟩ := List.cons.inj q
      subst e1 e2
      have hc : (Value.ref c :: r).contains (.type B) = r.contains (.type B) := by rw [List.contains_cons] <;> rfl
      exact hc.trans (ownThen_in B r h)
    · rw [q]
theorem ownThen_pass {tl : List Value} (p : ∀ v : Value, refuseLoop v "__setattr__" tl = pure ()) (v : Value) : ∀ l : List Value, ownThen tl l = true → refuseLoop v "__setattr__" l = pure ()
  | [], e => by
    rcases ownThen_two e with ⟨c, r, q, _⟩ | q
    · cases q
    · rw [q]; exact p v
  | a :: r, e => by
    rcases ownThen_two e with ⟨c, r2, q, h⟩ | q
    · obtain ⟨e1, e2⟩ := List.cons.inj q
      subst e1 e2
      rw [refuseLoop_ref]
      exact ownThen_pass p v r h
    · rw [q]; exact p v
def tailOf (B : String) : List Value := [.type B, .type "Exception", .type "BaseException", .type "object"]
/-- what is asked of the classes bm above an own error class whose instances `new` makes -/
structure Above (bm : List Value) (new : String) : Prop where
  how : ∃ (B ini : String) (tl : List Value), ExcBaseFacts B new ini tl ∧ ∀ Y : String, bm.contains (.type Y) = tl.contains (.type Y)
  pass : ∀ v : Value, refuseLoop v "__setattr__" bm = pure ()
  ob : bm.contains (.type "object") = true
theorem above_of {B new ini : String} {bm : List Value} {sa ow : String} (F : ExcBaseFacts B new ini (tailOf B)) (S : StoreFacts B (tailOf B) sa ow) (h : ownThen (tailOf B) bm = true) : Above bm new :=
  ⟨⟨B, ini, tailOf B, F, fun Y => ownThen_in Y bm h⟩, fun v => ownThen_pass S.passes v bm h, (ownThen_in "object" bm h).trans (by
    unfold tailOf
    simp)⟩
def aboveB (bm : List Value) (new : String) : Bool :=
  (new == "ValueError.__new__" && ownThen (tailOf "ValueError") bm) || ((new == "LookupError.__new__" && ownThen (tailOf "LookupError") bm) || (new == "ArithmeticError.__new__" && ownThen (tailOf "ArithmeticError") bm))
theorem aboveB_ok {bm : List Value} {new : String} (h : aboveB bm new = true) : Above bm new := by
  unfold aboveB at h
  rcases Bool.or_eq_true_iff.mp h with h | h
  · obtain ⟨e, h⟩ := ba h
    obtain rfl := eq_of_beq e
    exact above_of F.excBase_ValueError F.store_ValueError h
  · rcases Bool.or_eq_true_iff.mp h with h | h
    · obtain ⟨e, h⟩ := ba h
      obtain rfl := eq_of_beq e
      exact above_of F.excBase_LookupError F.store_LookupError h
    · obtain ⟨e, h⟩ := ba h
      obtain rfl := eq_of_beq e
      exact above_of F.excBase_ArithmeticError F.store_ArithmeticError h
/-- what the written part says of an own error class -/
structure OexG (K : PySem.W.Frag) (C : Addr) : Prop where
  cls : ∃ nm qn N bs bm sn sub ab col dd k0 k1 k2 k3 k5 new, K.lookup C = some (excClassObj nm qn C N bs bm true sn sub ab col dd k0 k1 k2 k3 k5 new) ∧ Above bm new
  sa : PySem.W.findIn K (.ref C) "__setattr__" = some (some (.builtin "object.__setattr__"))
  exC : PySem.W.subIn K (.ref C) (.type "BaseException") = some true
  tyC : PySem.W.typeIn K (.ref C) = some (.type "type")
  kC : PySem.W.keepIn K (.ref C) = true
/-! ### a field is set -/
section
variable {prog : Program} {w : World} {A : Around} {R : Result → Shared → Prop} {hp : Heap} {g : Array GenState} {dw : Drawn} {tk0 : Nat} {os : OsState} {K : PySem.W.Frag} {name : Str} {tk : Tok} {v : Value} {x C dx : Addr} {fv : Array Value} {cd : ClassData}
open Builtin Builtin.ObjectAttr PySem.W
/-- the first field: a dict is made -/
theorem osa_first (X : K.In hp) (hx : hp.get? x = some { cls := .ref C, data := .fields fv }) (hcd : clsIn K C = some cd) (hh : cd.hasDict = true) (ne : cd.mro.isEmpty = false) (ob : cd.mro.contains (.type "object") = true)
    (pass : ∀ v : Value, refuseLoop v "__setattr__" cd.mro = pure ()) (ha : findIn K (.ref C) name = some none)
    (k : ∀ h2 t2 dx, (∀ b o, b ≠ x → hp.get? b = some o → h2.get? b = some o) → hp.objs.size ≤ dx → dx ≠ x → h2.get? x = some { cls := .ref C, dict := some dx, data := .fields fv } → h2.Ns1 dx (fun y => if y = name then some v else none) → R (.ok (.ret .none)) ⟨h2, g, dw, t2, os⟩) :
    codeAny (model prog w) A (.call (.builtin "object.__setattr__") ⟨[.ref x, .str name tk, v], []⟩) R ⟨hp, g, dw, tk0, os⟩ := by
  have J : InstAt hp x { cls := .ref C, data := .fields fv } C none := ⟨hx, rfl, rfl, trivial⟩
  have nx : hp.objs.size ≠ x := (Nat.ne_of_lt (Heap.lt_size hx)).symm
  have LC : Looks (model prog w) hp (classData C) cd := looks_clsIn X hcd
  have LM : Looks (model prog w) hp (mroOf (.ref C)) cd.mro := LC.andThen .now
  have isO : mroIn K C (.type "object") = some true := by
    unfold mroIn
    rw [hcd, Option.bind_some, if_neg (by rw [ne]; decide), ob]
  refine codeAny_call_builtin F.store_object.slot.plain F.store_object.entry ?_
  refine @check_slot (model prog w) _ _ ⟨hp, g, dw, tk0, os⟩ "object.__setattr__" "object" "__setattr__" (.ref x) [.str name tk, v] [] _ F.store_object.kind F.store_object.split ?c1 ?c2 ?c3
  case c1 => exact J.type.andThen (looks_mroIn X isO)
  case c2 => exact F.store_object.args (.ref x) (.str name tk) v
  case c3 =>
    rw [osa_eq, refuse_eq]
    refine wpAny_bind (wpAny_bind ?_)
    refine J.type.at (wpAny_bind (LM.at ?_))
    rw [pass]
    refine wpAny_pure (wpAny_bind ?_)
    refine J.type.at (wpAny_bind ((looks_findIn X ha).at ?_))
    have LT : Looks (model prog w) hp (storeTaker? none) none := .now
    refine wpAny_bind (LT.at ?_)
    obtain ⟨c1, c2, c3, c4, c5, c6, c7, c8, c9, c10, c11⟩ := cd
    dsimp only at hh
    subst hh
    show wpAny _ _ (storeInOwnDict (.ref x) (.ref C) (.str name tk) name v false) _ _ _
    unfold storeInOwnDict ownDictForStores
    repeat (first
      | with_reducible refine HandSPX.store_in_new ?_ ?_
      | with_reducible refine wpAny_loadPart_at hx ?_
      | with_reducible refine LC.at ?_
      | wp_step)
    · exact ⟨_, #[], _,
        (Heap.get?_update_ne _ _ _ _ nx).trans (Heap.get?_push_at rfl rfl),
        rfl, fun e he => absurd he (by simp), fun _ => rfl⟩
    · intro h2 t2 hn sb
      have hx1 : (hp.push { cls := .type "dict", data := .dict #[] }).get? x = some { cls := .ref C, data := .fields fv } := Heap.get?_push_of_some _ hx
      refine k h2 t2 _ (fun b o hb ho => ?_) (Nat.le_refl _) nx ?_ hn
      · refine (sb.2 b (Nat.ne_of_lt (Heap.lt_size ho))).trans ?_
        exact (Heap.get?_update_ne _ _ _ _ hb).trans (Heap.get?_push_of_some _ ho)
      · exact (sb.2 x nx.symm).trans (Heap.get?_update_self _ hx1 rfl)
/-- a further field: the dict is there -/
theorem osa_later {m0 : Str → Option Value} {nl : List Str} (X : K.In hp) (hx : hp.get? x = some { cls := .ref C, dict := some dx, data := .fields fv }) (hns : hp.Ns1 dx m0) (hw : Within m0 nl) (hz : nl.length ≤ 1000) (hcd : clsIn K C = some cd) (hh : cd.hasDict = true)
    (ne : cd.mro.isEmpty = false) (ob : cd.mro.contains (.type "object") = true) (pass : ∀ v : Value, refuseLoop v "__setattr__" cd.mro = pure ()) (ha : findIn K (.ref C) name = some none)
    (k : ∀ h2 t2, (∀ b o, b ≠ dx → hp.get? b = some o → h2.get? b = some o) → h2.Ns1 dx (fun y => if y = name then some v else m0 y) → R (.ok (.ret .none)) ⟨h2, g, dw, t2, os⟩) :
    codeAny (model prog w) A (.call (.builtin "object.__setattr__") ⟨[.ref x, .str name tk, v], []⟩) R ⟨hp, g, dw, tk0, os⟩ := by
  obtain ⟨oD, esD, epD, hoD, hdD, _⟩ := hns.count hw
  have J : InstAt hp x { cls := .ref C, dict := some dx, data := .fields fv } C (some oD) := ⟨hx, rfl, rfl, hoD⟩
  have LC : Looks (model prog w) hp (classData C) cd := looks_clsIn X hcd
  have LM : Looks (model prog w) hp (mroOf (.ref C)) cd.mro := LC.andThen .now
  have isO : mroIn K C (.type "object") = some true := by
    unfold mroIn
    rw [hcd, Option.bind_some, if_neg (by rw [ne]; decide), ob]
  refine codeAny_call_builtin F.store_object.slot.plain F.store_object.entry ?_
  refine @check_slot (model prog w) _ _ ⟨hp, g, dw, tk0, os⟩ "object.__setattr__" "object" "__setattr__" (.ref x) [.str name tk, v] [] _ F.store_object.kind F.store_object.split ?c1 ?c2 ?c3
  case c1 => exact J.type.andThen (looks_mroIn X isO)
  case c2 => exact F.store_object.args (.ref x) (.str name tk) v
  case c3 =>
    rw [osa_eq, refuse_eq]
    refine wpAny_bind (wpAny_bind ?_)
    refine J.type.at (wpAny_bind (LM.at ?_))
    rw [pass]
    refine wpAny_pure (wpAny_bind ?_)
    refine J.type.at (wpAny_bind ((looks_findIn X ha).at ?_))
    have LT : Looks (model prog w) hp (storeTaker? none) none := .now
    refine wpAny_bind (LT.at ?_)
    obtain ⟨c1, c2, c3, c4, c5, c6, c7, c8, c9, c10, c11⟩ := cd
    dsimp only at hh
    subst hh
    show wpAny _ _ (storeInOwnDict (.ref x) (.ref C) (.str name tk) name v false) _ _ _
    unfold storeInOwnDict ownDictForStores
    repeat (first
      | with_reducible refine OEX.store_in_old hns hw hz ?_
      | with_reducible refine wpAny_loadPart_at hx ?_
      | with_reducible refine LC.at ?_
      | wp_step)
    intro h2 t2 hn sb
    exact k h2 t2 (fun b o hb ho => (sb.2 b hb).trans ho) hn
end
/-! ### over the abstract heap -/
section
variable {X : Cx} {pins : List (Addr × Obj)} {σ : L2.St} {H : Hp} {s : Shared} {a C dx : Addr} {f : Str} {y : V} {u : Value} {fs : List (Str × V)} {Q : Unit → Shared → Prop} {E : Value → Shared → Prop} {A : Around}
theorem setG_first (T : OexG X.K C) (I : Inv X pins σ H s) (e : H a = some (exo a C none)) (hno : PySem.W.findIn X.K (.ref C) f = some none) (ry : RelV y u)
    (k : ∀ dx s', H dx = none → dx ≠ a → Inv X pins σ (upd (upd H dx (exd dx [(f, y)])) a (exo a C (some dx))) s' → Q () s') : wpAny (model X.prog X.w) A (setAttr (.ref a) f u) Q E s := by
  obtain ⟨nm, qn, N, bs, bm, sn, sub, ab, col, dd, k0, k1, k2, k3, k5, new, hC, up⟩ := T.cls
  have hcl : PySem.W.clsIn X.K C = some { name := nm, bases := bs, mro := .ref C :: bm, ns := N, qualname := qn, hasDict := true, slotNames := sn, subclasses := sub, abstract := ab, collection := col, hasDel := false } := by
    unfold PySem.W.clsIn
    rw [hC] <;> rfl
  have ob : (Value.ref C :: bm).contains (.type "object") = true := by
    rw [List.contains_cons, up.ob, Bool.or_true]
  obtain ⟨t1, ho⟩ := exo_at I.hok e
  obtain ⟨hp, g, d, t, os⟩ := s
  refine PySem.W.set_plain I.kIn (ox := { cls := .ref C, dict := none, data := .fields #[.ref t1, .none, .none, .none, .bool false, .none] }) (od := none) ⟨ho, rfl, rfl, trivial⟩ T.sa ?_
  refine osa_first I.kIn ho hcl rfl rfl ob (fun v => by rw [refuseLoop_ref]; exact up.pass v) hno fun h' tk' dx kp dn dne hx hn => ?_
  have hnd : H dx = none := I.hok.fresh dn
  have off : ∀ {b : Addr} {o : Obj}, hp.get? b = some o → b ≠ dx := fun {b o} z => Nat.ne_of_lt (Nat.lt_of_lt_of_le (Heap.lt_size z) dn)
  have oth : ∀ {b : Addr}, H b = none → b ≠ a := fun {b} n => ne_of_none e n |>.symm
  have un : Un X.fs [] H (upd (upd H dx (exd dx [(f, y)])) a (exo a C (some dx))) hp h' := by
    refine ⟨?_, ?_, ?_, ?_, ?_, ?_, ?_⟩
    · exact fun b o z n _ _ => kp b o (oth n) z
    · exact fun b o z n _ _ => ⟨o.slots, kp b o (oth n) z⟩
    · intro b o z n _
      rw [upd_ne (oth n), upd_ne (off z)]
      exact n
    · intro b o z _
      by_cases hb : b = a
      · exact ⟨_, by rw [hb]; exact hx⟩
      · exact ⟨o, kp b o hb z⟩
    · intro b xs z
      rw [upd_ne (at_ne e z exo_tup), upd_ne (ne_of_none z hnd)]
      exact z
    · intro b o v z
      rw [upd_ne (at_ne e z exo_frz), upd_ne (ne_of_none z hnd)]
      exact z
    · intro b ps z
      refine ⟨#[], ?_⟩
      rw [upd_ne (at_ne e z exo_tbl), upd_ne (ne_of_none z hnd), z]
      simp
  refine k dx _ hnd dne (I.un (t' := tk') un fun b o z => ?_)
  by_cases hb : b = a
  · subst hb
    rw [upd_same] at z
    obtain rfl := Option.some.inj z
    exact exo_ok hx
  rw [upd_ne hb] at z
  by_cases hd : b = dx
  · subst hd
    rw [upd_same] at z
    obtain rfl := Option.some.inj z
    exact exd_ok hn (relO_put (fs := []) ry fun g => True.intro)
  rw [upd_ne hd] at z
  refine (I.hok b o z).stay (fun c v hc z2 => kp c v ?_ z2) (fun c hc => ?_) fun c xs hc => ?_
  · rcases hc with hc | hc
    · rw [hc]
      exact hb
    · exact at_ne e hc exo_own
  · rw [upd_ne (at_ne e hc exo_own), upd_ne (ne_of_none hc hnd)]
    exact hc
  · rw [upd_ne (at_ne e hc exo_tup), upd_ne (ne_of_none hc hnd)]
    exact hc
theorem setG_later (T : OexG X.K C) (I : Inv X pins σ H s) (e : H a = some (exo a C (some dx))) (ed : H dx = some (exd dx fs)) (hl : fs.length ≤ 900) (hno : PySem.W.findIn X.K (.ref C) f = some none) (ry : RelV y u)
    (k : ∀ s', Inv X pins σ (upd H dx (exd dx ((f, y) :: fs))) s' → Q () s') : wpAny (model X.prog X.w) A (setAttr (.ref a) f u) Q E s := by
  obtain ⟨nm, qn, N, bs, bm, sn, sub, ab, col, dd, k0, k1, k2, k3, k5, new, hC, up⟩ := T.cls
  have hcl : PySem.W.clsIn X.K C = some { name := nm, bases := bs, mro := .ref C :: bm, ns := N, qualname := qn, hasDict := true, slotNames := sn, subclasses := sub, abstract := ab, collection := col, hasDel := false } := by
    unfold PySem.W.clsIn
    rw [hC] <;> rfl
  have ob : (Value.ref C :: bm).contains (.type "object") = true := by
    rw [List.contains_cons, up.ob, Bool.or_true]
  obtain ⟨t1, ho⟩ := exo_at I.hok e
  obtain ⟨mA, hns, rel⟩ := exd_at I.hok ed
  have wi := within_of rel
  obtain ⟨hp, g, d, t, os⟩ := s
  obtain ⟨oD, _, _, hoD, _, _⟩ := hns.count wi
  refine PySem.W.set_plain I.kIn (ox := { cls := .ref C, dict := some dx, data := .fields #[.ref t1, .none, .none, .none, .bool false, .none] }) (od := some oD) ⟨ho, rfl, rfl, hoD⟩ T.sa ?_
  refine osa_later I.kIn ho hns wi (by rw [List.length_map]; omega) hcl rfl rfl ob (fun v => by rw [refuseLoop_ref]; exact up.pass v) hno fun h' tk' kp hn => ?_
  obtain ⟨oN, _, _, eN, _⟩ := id hn
  exact k _ (I.write (t' := tk') (x := dx) (e := dx) (o := exd dx ((f, y) :: fs)) (by rw [ed]; exact True.intro) (.inl rfl) kp ⟨oN, eN⟩ (exd_ok hn (relO_put ry rel)))
/-- self.f = v, self an exception that is being made -/
def tOstG (K : PySem.W.Frag) (f : Str) (to te : TE) : TS := fun D σ H => te σ H fun y H1 => to σ H1 fun x H2 => ∃ a C, x = .ref a ∧ OexG K C ∧ PySem.W.findIn K (.ref C) f = some none ∧
  ((H2 a = some (exo a C none) ∧ ∀ dx, H2 dx = none → dx ≠ a → D.nx σ (upd (upd H2 dx (exd dx [(f, y)])) a (exo a C (some dx)))) ∨
   ∃ dx fs, H2 a = some (exo a C (some dx)) ∧ H2 dx = some (exd dx fs) ∧ fs.length ≤ 900 ∧ D.nx σ (upd H2 dx (exd dx ((f, y) :: fs))))
variable {e o : Expr} {te to : TE} {p' pos : Pos}
theorem ps_ostG (ho : PE X o to) (he : PE X e te) (hs : swapsWith e (some (.Attribute o f p')) pos.line X.env = pure false := by rfl) : PS X (.Assign [.Attribute o f p'] e pos) (tOstG X.K f to te) := by
  refine ⟨fun pins s σ H D I h => ?_⟩
  refine plainObj_wpAny_Assign_Attribute ?_ hs
  refine thn (he.run pins s σ H _ I h) fun v s1 ⟨y, H1, I1, r1, q1⟩ => ?_
  refine thn (ho.run pins s1 σ H1 _ I1 q1) fun u s2 ⟨x, H2, I2, r2, a, C, ex, T, hno, q⟩ => ?_
  subst ex
  obtain rfl : u = Value.ref a := r2
  rcases q with ⟨ea, q⟩ | ⟨dx, fs, ea, ed, hl, q⟩
  · exact setG_first T I2 ea hno r1 fun dx s' n ne J => ⟨σ, _, J, q dx n ne⟩
  · exact setG_later T I2 ea ed hl hno r1 fun s' J => ⟨σ, _, J, q⟩
end
/-! ### C(e, ..) -/
section
variable {X : Cx} {e : Expr} {es : List Expr} {ta : TA} {p pos : Pos}
theorem pmkG {CX : CXT} {x : Str} {C fI : Addr} {k : Nat} {fd : FuncData} {ps : List Str} {sp : Sp} {ds : List Value} {dvs : List V} (T : OexG X.K C) (iC : PySem.W.findIn X.K (.ref C) "__init__" = some (some (.ref fI))) (tI : PySem.W.typeIn X.K (.ref fI) = some (.type "function"))
    (F1 : FnOk X.prog X.w X.K X.mg X.base CX k fI fd ps sp) (hr : Room (k + 1) X.A) (hb : Binds X.K fd ps ds) (hd : Vals dvs ds) (hx : Passes CX X (fun _ _ _ => False)) (hg : Gl X x) (hm : X.mg x = some (.ref C)) (ha : PA X (e :: es) ta)
    (hdb : (x == ("__debug__" : Str)) = false := by decide) (he : starEach (e :: es) X.env = (false, eval e X.env) :: starEach es X.env := by rfl) (hpl : (backTo pos (starEach es X.env)).any (·.1) = false := by rfl) :
    PMk X (.Call (.Name x p) (e :: es) [] pos) (tMkO C sp dvs ta) := by
  intro pins s σ H Q I h
  obtain ⟨nm, qn, N, bs, bm, sn, sub, ab, col, dd, k0, k1, k2, k3, k5, new, hC, up⟩ := T.cls
  obtain ⟨B, ini, tl, FB, hT⟩ := up.how
  refine wpAny_Call_Name_kw (ld_glob I hg hm ?_ hdb)
  refine PySem.W.callWith_K (h₀ := X.base) I.ok.mod.kin T.kC ?_ he hpl
  refine thn (ha.run pos pins s σ H _ I h) fun us s1 ⟨vs, H1, I1, r1, hz, q1⟩ => ⟨I1.kIn, ?_⟩
  show wpAny _ _ (call (.ref C) us) _ _ _
  obtain ⟨hp, g, dr, tk, os⟩ := s1
  have gt : hp.objs.size ≤ hp.objs.size + 1 := Nat.le_succ _
  have hq := q1 (hp.objs.size + 1) (I1.hok.fresh gt)
  let h2 : Heap := (hp.push (PySem.W.kdv_tup us)).push (PySem.HandSPX.excO C hp.objs.size)
  have kk : ∀ b o, hp.get? b = some o → h2.get? b = some o := fun b o z => Heap.get?_push_of_some _ (Heap.get?_push_of_some _ z)
  have at2 : h2.get? (hp.objs.size + 1) = some (PySem.HandSPX.excO C hp.objs.size) := by
    show ((hp.push (PySem.W.kdv_tup us)).push (PySem.HandSPX.excO C hp.objs.size)).get? (hp.objs.size + 1) = _
    heap_get
  have I2 : Inv X pins σ (upd H1 (hp.objs.size + 1) (exo (hp.objs.size + 1) C none)) ⟨h2, g, dr, tk, os⟩ := I1.laid (t' := tk) (a := hp.objs.size + 1) (o := exo (hp.objs.size + 1) C none) (h' := h2) kk gt (exo_ok at2)
  have r2 : Vals (V.ref (hp.objs.size + 1) :: (vs ++ dvs)) (Value.ref (hp.objs.size + 1) :: (us ++ ds)) := .cons rfl (r1.append hd)
  have l2 : (Value.ref (hp.objs.size + 1) :: us ++ ds).length = ps.length := (F1.len _ _ _ _ hq ▸ r2.length).symm
  have usz : us.length ≤ sizeLine := by
    rw [← Paired.length r1, sizeLine_eq]
    omega
  have run := F1.run _ X.stack _ _ ⟨Value.ref (hp.objs.size + 1) :: us, []⟩ (Value.ref (hp.objs.size + 1) :: (us ++ ds)) _ _ (fun _ _ _ => False) (hr.make C us []) (I2.env0.make C us []) (hb _ (Value.ref (hp.objs.size + 1) :: us) I2.kIn l2) r2 hq
  refine wpAny_call (PySem.HandSPX.call_own FB hT (I1.kIn _ _ hC) (PySem.W.looks_findIn I1.kIn iC) (fun self => PySem.W.bind_fn I1.kIn self tI) usz (codeAny_mono run fun r s' z => ?_))
  match r, z with
  | .error er, z => exact hx pins σ _ _ er s' I2 z
  | .ok (.ret u), z =>
    obtain ⟨v, H2, os2, bare2, un2, hok2, rv, ev, d, fs, ea, ed, hd1, q2⟩ := z
    subst ev
    obtain ⟨hh2, g2, d2, t2, os'⟩ := s'
    exact ⟨rv, mk_end (raises_own T.exC T.tyC) I1 gt kk un2 hok2 os2 bare2 ea ed hd1 q2⟩
end
end My

set_option Elab.async false
set_option linter.all false
set_option maxRecDepth 100000
set_option maxHeartbeats 4000000
/-! LayK: own error classes whose __init__ sets one field: raised, passed on, caught by name, their class asked, their field read -/
namespace My
open PySem PySem.Spec PyProof.Rows L2 He
theorem decT {p : Prop} [Decidable p] (h : decide p = true) : p := of_decide_eq_true h
/-- the class object of an own error -/
def oexB (K : PySem.W.Frag) (C : Addr) : Bool := match K.lookup C with
  | some ⟨.type "type", _, .cls c, sl⟩ => (match c.mro, sl.toList with
    | .ref C2 :: bm, [_, _, _, _, some (.builtin n), _] => C2 == C && (aboveB bm n && (c.hasDict && !c.hasDel))
    | _, _ => false)
  | _ => false
theorem oexB_ok {K : PySem.W.Frag} {C : Addr} (q : oexB K C = true) : ∃ nm qn N bs bm sn sub ab col dd k0 k1 k2 k3 k5 new, K.lookup C = some (excClassObj nm qn C N bs bm true sn sub ab col dd k0 k1 k2 k3 k5 new) ∧ Above bm new := by
  unfold oexB at q
  split at q
  · rename_i dd c sl ho
    split at q
    · rename_i C2 bm k0 k1 k2 k3 n k5 em es
      obtain ⟨e1, q⟩ := ba q
      obtain ⟨e2, q⟩ := ba q
      obtain ⟨e3, e4⟩ := ba q
      have e1 := eq_of_beq e1
      subst e1
      obtain ⟨f1, f2, f3, f4, f5, f6, f7, f8, f9, f10, f11⟩ := c
      dsimp only at em e3 e4
      cases f11 with
      | true => cases e4
      | false =>
        subst em e3
        have esl : sl = #[k0, k1, k2, k3, some (.builtin n), k5] := by
          cases sl
          simp only at es
          rw [es]
        rw [esl] at ho
        exact ⟨_, _, _, _, _, _, _, _, _, _, _, _, _, _, _, _, ho, aboveB_ok e2⟩
    · cases q
  · cases q
/-- all that is asked of an own error class x with an __init__ of its own -/
structure ErrOk (K : PySem.W.Frag) (C f : Addr) : Prop where
  ox : OexG K C
  iC : PySem.W.findIn K (.ref C) "__init__" = some (some (.ref f))
  tI : PySem.W.typeIn K (.ref f) = some (.type "function")
  xf : XfC K C
  cl : (PySem.W.clsIn K C).isSome = true
  ca : PySem.W.findIn K (.ref C) "__class__" = some (some (.builtin "object.__class__"))
  hn : PySem.W.specialIn K (.builtin "object.__class__") "__get__" = some (some (.builtin "getset_descriptor.__get__"))
  tk : PySem.W.takesIn K (.builtin "object.__class__") = some true
  mo : PySem.W.mroIn K C (.type "object") = some true
def errB (K : PySem.W.Frag) (x : Str) : Bool := oexB K (ga K x) && (eqO (PySem.W.findIn K (.ref (ga K x)) "__setattr__") (some (some (.builtin "object.__setattr__"))) && (decide (PySem.W.typeIn K (.ref (ga K x)) = some (.type "type")) && (PySem.W.keepIn K (.ref (ga K x)) &&
  (eqO (PySem.W.findIn K (.ref (ga K x)) "__init__") (some (some (.ref (ma K (ga K x) "__init__")))) && (decide (PySem.W.typeIn K (.ref (ma K (ga K x) "__init__")) = some (.type "function")) && (xfB K (ga K x) && ((PySem.W.clsIn K (ga K x)).isSome &&
  (eqO (PySem.W.findIn K (.ref (ga K x)) "__class__") (some (some (.builtin "object.__class__"))) && (eqO (PySem.W.specialIn K (.builtin "object.__class__") "__get__") (some (some (.builtin "getset_descriptor.__get__"))) &&
  (decide (PySem.W.takesIn K (.builtin "object.__class__") = some true) && decide (PySem.W.mroIn K (ga K x) (.type "object") = some true)))))))))))
theorem errB_ok {K : PySem.W.Frag} {x : Str} (h : errB K x = true) : ErrOk K (ga K x) (ma K (ga K x) "__init__") := by
  obtain ⟨h1, h⟩ := ba h
  obtain ⟨h2, h⟩ := ba h
  obtain ⟨h3, h⟩ := ba h
  obtain ⟨h4, h⟩ := ba h
  obtain ⟨h5, h⟩ := ba h
  obtain ⟨h6, h⟩ := ba h
  obtain ⟨h7, h⟩ := ba h
  obtain ⟨h8, h⟩ := ba h
  obtain ⟨h9, h⟩ := ba h
  obtain ⟨h10, h⟩ := ba h
  obtain ⟨h11, h12⟩ := ba h
  have xf := xfB_ok h7
  exact ⟨⟨oexB_ok h1, eqO_ok h2, xf.exC, decT h3, h4⟩, eqO_ok h5, decT h6, xf, h8, eqO_ok h9, eqO_ok h10, decT h11, decT h12⟩
def noB (K : PySem.W.Frag) (x f : Str) : Bool := eqO (PySem.W.findIn K (.ref (ga K x)) f) (some none)
theorem noB_ok {K : PySem.W.Frag} {x f : Str} (h : noB K x f = true) : PySem.W.findIn K (.ref (ga K x)) f = some none := eqO_ok h
/-! ### the making -/
section
variable {P : Program} {w : World} {K : PySem.W.Frag} {mg : Str → Option Value} {base : Heap} {x qual : Str} {params : Arguments} {body : List Stmt} {scope : Scope} {dvs : List V} {kws : List (Str × V)} {f : Addr} {fd : FuncData} {N ps : List Str} {k : Nat} {sp : Sp}
/-- a def that keeps its promise anywhere -/
theorem fnR (F : FunD K x qual params body scope dvs kws f fd) (S : FnScope N ps scope) (len : ∀ vs H Q E, sp vs H Q E → vs.length = ps.length)
    (hbody : ∀ (cdv : Value) (A : Around) (outer : List Env) (s : Shared) (H : Hp) (vs : List V) (Q : VK) (E : XK), Room k (A.deeper (envOfC qual scope s.heap.objs.size f cdv)) → sp vs H Q E →
      ∃ t, PSs (cxOf CX0 P w K mg base N qual scope f cdv A outer s H E) body t ∧ t { nx := fun _ H2 => Q .non H2, rt := Q } (start N vs) H) : FnOk P w K mg base CX0 (k + 1) f fd ps sp := by
  obtain ⟨_, _, _, _, _, _, _, cdv, _, _, rfl, lk, hcd, _, _⟩ := F.ex
  exact fn_of lk hcd S len fun A outer s H vs Q E hr q => hbody cdv A outer s H vs Q E hr q
end
/-- self.f = v of a new error -/
def spErr (C : Addr) (f : Str) : Sp := fun vs H Q _ => ∃ (a : Addr) (v : V), vs = [.ref a, v] ∧ H a = some (exo a C none) ∧ ∀ dx, H dx = none → dx ≠ a → Q .non (upd (upd H dx (exd dx [(f, v)])) a (exo a C (some dx)))
/-- what follows of C(v): d is the new error's dict -/
def MkE (C : Addr) (f : Str) (vs : List V) (H : Hp) (Q : XK) : Prop := vs.length ≤ 1000 ∧ ∀ a, H a = none → spErr C f (.ref a :: (vs ++ [])) (upd H a (exo a C none))
  (fun v H2 => v = .non ∧ ∃ (d : Addr) (fs : List (Str × V)), H2 a = some (exo a C (some d)) ∧ H2 d = some (exd d fs) ∧ H d = none ∧ Q (.ref C) (some d) (upd (del H2 a) d (.xd fs))) (fun _ _ _ => False)
section
variable {X : Cx} {x : Str} {C g : Addr} {k : Nat} {fd : FuncData} {ps : List Str} {f : Str} {W : WX} {e : Expr} {es : List Expr} {ta : TA} {p pos pos' : Pos}
def tRaise (C : Addr) (f : Str) (W : WX) (ta : TA) : TS := fun _ σ H => ta σ H fun vs H1 => MkE C f vs H1 fun cls d H2 => W cls d σ H2
end
/-! ### calls that may raise -/
section
variable {X : Cx} {CX : CXT} {k j : Nat} {f C : Addr} {x : Str} {ps : List Str} {dvs : List V} {sp : Sp} {E : L2.St → XK} {e : Expr} {es : List Expr} {p pos : Pos} {t : TA}
def tCallG (sp : Sp) (dvs : List V) (E : L2.St → XK) (t : TA) : TE := fun σ H Q => t σ H fun vs H1 => sp (vs ++ dvs) H1 Q (E σ)
end
/-! ### in an except suite -/
section
variable {X : Cx} {a : Addr} {oe : Obj} {cls : Value} {d : Option Addr} {pn : List (Addr × Obj)}
end
end My

set_option Elab.async false
set_option linter.all false
set_option maxRecDepth 100000
set_option maxHeartbeats 4000000
/-! LayL: repr of a thing of any plain kind -/
namespace My
open PySem PySem.Spec PyProof.Rows L2
def dkI (ps : List (Int × Int)) : List (Key × V) := ps.map fun p => (.inl p.1, .int p.2)
def ddI (ps : List (Int × Int)) : List (PyData × PyData) := ps.map fun p => (.int p.1, .int p.2)
/-- a value and the data that it is: none, truth values, ints, texts, lists and tuples of such, dicts of ints -/
inductive DpT (K : PySem.W.Frag) (H : Hp) : V → PyData → Prop
  | pl {x : V} {d : PyData} (h : Dp K H x d) (n : d.hasDict = false) : DpT K H x d
  | dct {a : Addr} {ps : List (Int × Int)} (h : H a = some (.dK (dkI ps))) : DpT K H (.ref a) (.dict (ddI ps))
section
variable {X : Cx} {pins : List (Addr × Obj)} {σ : L2.St} {H : Hp} {s : Shared}
theorem kv_reads {P : Program} {w : World} {h : Heap} : ∀ {ps : List (Int × Int)} {es : List DictEntry} {vs : List (Key × Value)}, KV (dkI ps) vs → Pairs (mixKind P w) es vs → ReadsAll h (es.map (·.key)) ((ddI ps).map (·.1)) [] ∧ ReadsAll h (es.map (·.val)) ((ddI ps).map (·.2)) []
  | [], es, vs, r, q => by
    cases r
    cases q
    exact ⟨.nil, .nil⟩
  | p :: ps, es, vs, r, q => by
    cases r with
    | cons r1 r2 =>
      cases q with
      | @cons en _ _ _ q1 q2 q3 =>
        obtain ⟨z1, z2⟩ := kv_reads r2 q3
        obtain ⟨k1, k2⟩ := r1
        dsimp only at k1 k2
        rw [← k1] at q1
        rcases keyIs_shape (show keyIs (Sum.inl p.1) _ = true from q1) with ⟨i, t, e1, e2⟩ | ⟨y, t, e1, e2⟩
        · cases e1
          obtain ⟨t2, e3⟩ := k2
          have g1 : Reads h en.key (.int p.1) [] := by
            rw [e2]
            exact .int _ _
          have g2 : Reads h en.val (.int p.2) [] := by
            rw [q2, e3]
            exact .int _ _
          exact ⟨ReadsAll.cons (as := []) (bs := []) g1 z1, ReadsAll.cons (as := []) (bs := []) g2 z2⟩
        · cases e1
theorem dict_reads (I : Inv X pins σ H s) {a : Addr} {ps : List (Int × Int)} (h : H a = some (.dK (dkI ps))) : Reads s.heap (.ref a) (.dict (ddI ps)) [a] ∧ a ≠ sysModules := by
  obtain ⟨_, hn, vs, rel, o, es, ep, h1, h2, h3, _, h5, _⟩ := dk_of I.hok h
  obtain ⟨z1, z2⟩ := kv_reads (h := s.heap) rel h5
  refine ⟨Reads.dict (as := []) (bs := []) h1 h2.1 h3 z1 z2, fun e => ?_⟩
  rw [e, beq_self_eq_true] at hn
  cases hn
/-- repr of such a thing -/
def rReprT (K : PySem.W.Frag) : List V → Hp → VK → Prop := fun xs H Q => ∃ x d, xs = [x] ∧ DpT K H x d ∧ d.showable = true ∧ d.depth ≤ 50 ∧ d.shown.length ≤ sizeLine ∧ Q (.str d.shown) H
end
/-- a thing whose repr may be asked -/
def Thg (K : PySem.W.Frag) (H : Hp) (x : V) (d : PyData) : Prop := DpT K H x d ∧ d.showable = true ∧ d.depth ≤ 50 ∧ d.shown.length ≤ sizeLine
theorem Thg.q {K : PySem.W.Frag} {H : Hp} {x : V} {d : PyData} {Q : VK} (h : Thg K H x d) (q : Q (.str d.shown) H) : rReprT K [x] H Q := ⟨x, d, rfl, h.1, h.2.1, h.2.2.1, h.2.2.2, q⟩
mutual
theorem dp_same {K : PySem.W.Frag} {H H' : Hp} (s : Same H H') : ∀ {d : PyData} {x : V}, Dp K H x d → Dp K H' x d
  | _, _, .non => .non
  | _, _, .bl b => .bl b
  | _, _, .int i => .int i
  | _, _, .str x => .str x
  | _, _, .lst h k => .lst (s.seq h) (dpAll_same s k)
  | _, _, .tup h k => .tup (tupS h s) (dpAll_same s k)
theorem dpAll_same {K : PySem.W.Frag} {H H' : Hp} (s : Same H H') : ∀ {ds : List PyData} {xs : List V}, DpAll K H xs ds → DpAll K H' xs ds
  | _, _, .nil => .nil
  | _, _, .cons h k => .cons (dp_same s h) (dpAll_same s k)
end
theorem Thg.same {K : PySem.W.Frag} {H H' : Hp} {x : V} {d : PyData} (h : Thg K H x d) (s : Same H H') : Thg K H' x d := by
  refine ⟨?_, h.2⟩
  cases h.1 with
  | pl k n => exact .pl (dp_same s k) n
  | dct e => exact .dct (s _ _ e)
/-- a def without defaults, called by names -/
theorem kb0 {K : PySem.W.Frag} {x qual : Str} {params : Arguments} {body : List Stmt} {scope : Scope} {kws : List (Str × V)} {f : Addr} {fd : FuncData} {ps : List Str} (F : FunD K x qual params body scope [] kws f fd) (n : Nat) (ks : List Str) (g : {α : Type} → List α → List α → List α)
    (rl : ∀ {vs zs : List V} {us ws : List Value}, Vals vs us → Vals zs ws → Vals (g vs zs) (g us ws))
    (h : ∀ (kV doc pm : Value) (an : Option Addr) (cdv ct : Value) (us ws : List Value), us.length = n → ws.length = ks.length → bindArgs (PySem.W.fnOf x qual params body scope .none kV doc pm an cdv ct) ⟨us, ks.zip ws⟩ = pure (ps.zip (g us ws))) :
    KBn K fd ps n ks (fun us ws => g us ws) (fun vs zs => g vs zs) := by
  obtain ⟨_, _, _, kV, doc, pm, an, cdv, ct, _, rfl, _, _, hD, _⟩ := F.ex
  rcases hD with ⟨_, rfl⟩ | ⟨e, _⟩
  · exact ⟨fun s us ws _ l1 l2 => .of_eq (h kV doc pm an cdv ct us ws l1 l2), fun r1 r2 => rl r1 r2⟩
  · exact absurd rfl e
section
variable {σ : L2.St} {H : Hp} {D : Ends} {Q : VK} {tA : TA} {C : Addr} {f : Str} {W : WX} {sp : Sp} {E : L2.St → XK}
theorem r_raiseE (h : tA σ H fun vs H1 => MkE C f vs H1 fun cls d H2 => W cls d σ H2) : tRaise C f W tA D σ H := h
theorem r_callG (h : tA σ H fun vs H1 => sp vs H1 Q (E σ)) : tCallG sp [] E tA σ H Q := by
  unfold tCallG
  simp only [List.append_nil]
  exact h
/-- e.f of a caught error that stands in a slot -/
theorem r_xfV {a C dd : Addr} {f : Str} {fs : List (Str × V)} {v : V} {i : Nat} (e : σ[i]? = some (some (.ref a))) (hd : H dd = some (.xd fs)) (l : fs.lookup f = some v) (q : Q v H) : tXf a (.ref C) (some dd) C f (tVar i) σ H Q := ⟨_, e, rfl, rfl, dd, fs, v, rfl, hd, l, q⟩
end
end My

set_option Elab.async false
set_option linter.all false
set_option maxRecDepth 100000
set_option maxHeartbeats 4000000
/-! LayM: a caught error handed to a def, from within the except suite -/
namespace My
open PySem PySem.Spec PyProof.Rows L2 He
/-- a promise that may tell of the error that is handled -/
abbrev SpQ : Type := (Addr × Obj) → Sp
/-- the def fd at f keeps its promise where the error p is handled -/
structure FnQ (P : Program) (w : World) (K : PySem.W.Frag) (mg : Str → Option Value) (base : Heap) (k : Nat) (f : Addr) (fd : FuncData) (ps : List Str) (sp : SpQ) : Prop where
  len : ∀ p vs H Q E, sp p vs H Q E → vs.length = ps.length
  run : ∀ (A : Around) (outer : List Env) (s : Shared) (H : Hp) (args : Args) (us : List Value) (vs : List V) (Q : VK) (p : Addr × Obj), L2H.RoomH k A → L2H.PinOk outer H s p → Env0 P w K mg base A outer s H → BindsTo s fd args (ps.zip us) → Vals vs us → sp p vs H Q E0 →
    codeAny (model P w) A (.call (.ref f) args) (CR CX0 outer P w H s Q E0) s
section
variable {P : Program} {w : World} {K : PySem.W.Frag} {mg : Str → Option Value} {base : Heap} {x qual : Str} {params : Arguments} {body : List Stmt} {scope : Scope} {dvs : List V} {kws : List (Str × V)} {f : Addr} {fd : FuncData} {N ps : List Str} {k : Nat} {sp : SpQ}
theorem _root_.L2H.RoomH.units {k : Nat} {A : Around} (r : L2H.RoomH k A) : A.units + 64 < cLine := by
  have := r.un
  omega
end
section
variable {X : Cx} {k : Nat} {f a : Addr} {oe : Obj} {fd : FuncData} {ps : List Str} {sp : SpQ} {x : Str} {p pos : Pos} {e : Expr} {es : List Expr} {t : TA} {pn : List (Addr × Obj)}
end
/-! in the body of such a def -/
section
variable {P : Program} {w : World} {K : PySem.W.Frag} {mg : Str → Option Value} {base : Heap} {N : List Str} {qual : Str} {scope : Scope} {f : Addr} {cdv : Value} {A : Around} {outer : List Env} {s : Shared} {H0 : Hp} {p : Addr × Obj}
end
end My

set_option Elab.async false
set_option linter.all false
set_option maxRecDepth 100000
set_option maxHeartbeats 4000000
/-! LayN: try: body, except (C1, C2, C3) as e: suite, where every error of the body is one of the three -/
namespace My
open PySem PySem.Spec PyProof.Rows L2 He
open PySem.HandSPX
/-- what flies goes on flying over an object more -/
theorem fly_push {B h : Heap} {l : List Env} {a : Addr} {Z : Obj → Prop} (o : Obj) (x : FlyingZ B l a Z h) : FlyingZ B l a Z (h.push o) := by
  have k : ∀ {b u}, h.get? b = some u → (h.push o).get? b = some u := fun e => Heap.get?_push_of_some _ e
  obtain ⟨x1, x2, x3, oe, vs, T, oT, ts, e1, e2, e3, e4, e5, e6, e7, e8, e9⟩ := x
  exact ⟨fun b u e => k (x1 b u e), x2, x3.of_keeps fun b u e _ => ⟨u, k e, rfl⟩, oe, vs, T, oT, ts, k e1, e2, e3, e4, e5, e6, k e7, e8, e9⟩
section
variable {X : Cx} {x1 x2 x3 n : Str} {C1 C2 C3 : Addr} {i : Nat} {body suite : List Stmt} {b₀ : Stmt} {p1 p2 p3 tp pos pos' : Pos} {kk : Nat} {tb : WX → TS} {ts : Addr → Value → Option Addr → TS}
/-- the three classes, loaded in a suite -/
theorem load3 {A : Around} {s : Shared} {Q E : Value → Shared → Prop} (h : ∀ {x : Str} {C : Addr} {p : Pos} {Q2 : Value → Shared → Prop}, (x, C) ∈ [(x1, C1), (x2, C2), (x3, C3)] → Q2 (.ref C) s → wpAny (model X.prog X.w) A (eval (.Name x p) X.env) Q2 E s)
    (q : Q (.ref s.heap.objs.size) { s with heap := s.heap.push { cls := .type "tuple", data := .seq [.ref C1, .ref C2, .ref C3].toArray } }) :
    wpAny (model X.prog X.w) A (eval (.Tuple [.Name x1 p1, .Name x2 p2, .Name x3 p3] kk tp) X.env) Q E s := by
  refine wpAny_Tuple ?_
  show wpAny _ _ (spliced ((false, eval (.Name x1 p1) X.env) :: (false, eval (.Name x2 p2) X.env) :: (false, eval (.Name x3 p3) X.env) :: [])) _ _ _
  refine Calls.spliced_cons (h (C := C1) (by simp) (Calls.spliced_cons (h (C := C2) (by simp) (Calls.spliced_cons (h (C := C3) (by simp) (Calls.spliced_nil ⟨?_, q⟩))))))
  show 3 ≤ sizeLine
  rw [sizeLine_eq]
  decide
end
end My

set_option Elab.async false
set_option linter.all false
set_option maxRecDepth 100000
set_option maxHeartbeats 4000000
/-! LayO: x(lambda: body), where it is known that no repr is under way -/
namespace My
open PySem PySem.Spec PyProof.Rows L2 He LamX
section
variable {X : Cx} {pins : List (Addr × Obj)} {σ : L2.St} {H : Hp} {s : Shared} {k i : Nat} {g f c' : Addr} {params : Arguments} {body : Expr} {scope sg : Scope} {qg a : Str} {cdg pm ctv : Value} {Ng : List Str} {E : XK} {tb : TE} {pn : List (Addr × Obj)} {xe : Value → Shared → Prop} {W : WX} {p1 p2 : Pos}
end
section
variable {X : Cx} {k : Nat} {g c P : Addr} {params pg : Arguments} {body : Expr} {scope sg : Scope} {bg : List Stmt} {x a : Str} {kws : List (Str × V)} {fd : FuncData} {Ng : List Str} {T : List (Addr × Str)} {TT : (XK → Hp → VK → Prop) → Hp → VK → Prop} {t : XK → TE} {p lpos pos : Pos}
end
end My

set_option Elab.async false
set_option linter.all false
set_option maxRecDepth 100000
set_option maxHeartbeats 4000000
/-! LayP: the law's end where defs make lambdas: tables of code objects are tracked -/
namespace My
open PySem PySem.Spec PyProof.Rows L2 LamX
/-- a code object at p.1 with its empty table at p.2, outside of K -/
structure Tbl0 (K : PySem.W.Frag) (h : Heap) (p : Addr × Addr) : Prop where
  code : PySem.W.CodeHd h p.1 p.2
  tab : h.get? p.2 = some { cls := .none, data := .fields #[] }
  out : K.lookup p.2 = none
/-- what is tracked at the start: the script, perhaps, and the tables -/
structure Start (cs : List (Addr × Addr)) (H : Hp) (a : Addr) : Prop where
  tabs : ∀ p ∈ cs, H p.2 = some (.tbl #[])
  only : ∀ b, H b = none ∨ (∃ p ∈ cs, b = p.2) ∨ (b = a ∧ ∃ o xs, H b = some (.frz o (.lst xs)))
section
variable {P : Program} {w : World} {K : PySem.W.Frag} {mg mb : Str → Option Value} {k : Nat} {fa a : Addr} {fd : FuncData} {x : Str} {sp : Sp} {t : Shared} {vs : List Value} {ns : List Int} {H : Hp} {cs : List (Addr × Addr)}
end
end My

set_option Elab.async false
set_option linter.all false
set_option maxRecDepth 100000
set_option maxHeartbeats 4000000
/-! LayQ: the hook and the law's end where some defs' tables of code objects are tracked; repr of a list that holds a dict -/
namespace Hk
open PySem PySem.Spec PyProof.Rows L2 He
/-- the object at sysModules is a dict -/
def smB (K : PySem.W.Frag) : Bool := match K.lookup sysModules with
  | some ⟨.type c, _, _, _⟩ => decide (c = "dict")
  | _ => false
structure SaysF (fa : List Fa) (fn : List DefE) (tf : List Defn) (ex : PySem.W.Frag → Bool) (h : Heap) (K : PySem.W.Frag) : Prop where
  c : SaysE fa fn ex K
  sm : smB K = true
  hd : ∀ p ∈ tf, PySem.W.codeHdIn K (cT K p).1 (cT K p).2 = true
  out : ∀ p ∈ tf, K.lookup (cT K p).2 = none
  empty : ∀ p ∈ tf, h.get? (cT K p).2 = some { cls := .none, data := .fields #[] }
def frQ (n : Nat) (g : Addr → Option Obj) : PySem.W.Frag := frT g (asD g n ++ [cStatics, sysModules])
def obsFG (n : Nat) (fa : List Fa) (fn : List DefE) (tf : List Defn) (ex : PySem.W.Frag → Bool) (g : Addr → Option Obj) : Bool × AlE := (smB (frQ n g) && tabsB g tf (frQ n g), obsE fa fn ex (frQ n g))
theorem saysF_of {n : Nat} {fa : List Fa} {fn : List DefE} {tf : List Defn} {ex : PySem.W.Frag → Bool} {h : Heap} (e : obsFG n fa fn tf ex h.get? = (true, valE fn)) : SaysF fa fn tf ex h (frQ n h.get?) := by
  have e1 : (smB (frQ n h.get?) && tabsB h.get? tf (frQ n h.get?)) = true := congrArg (fun z : Bool × AlE => z.1) e
  have e2 : obsE fa fn ex (frQ n h.get?) = valE fn := congrArg (fun z : Bool × AlE => z.2) e
  obtain ⟨h1, h2⟩ := ba e1
  have key : ∀ p ∈ tf, PySem.W.codeHdIn (frQ n h.get?) (cT (frQ n h.get?) p).1 (cT (frQ n h.get?) p).2 = true ∧ ∃ o, h.get? (cT (frQ n h.get?) p).2 = some o ∧ emptyTab o = true := fun p hp => by
    obtain ⟨h3, h4⟩ := ba (List.all_eq_true.mp h2 p hp)
    refine ⟨h3, ?_⟩
    cases q : h.get? (cT (frQ n h.get?) p).2 with
    | none =>
      rw [q] at h4
      cases h4
    | some o =>
      rw [q] at h4
      exact ⟨o, rfl, h4⟩
  exact ⟨e2, h1, fun p hp => (key p hp).1, fun p hp => by
    obtain ⟨_, o, q, z⟩ := key p hp
    exact frT_none q z, fun p hp => by
    obtain ⟨_, o, q, z⟩ := key p hp
    rw [q, emptyTab_eq z]⟩
def hookF (n : Nat) (fa : List Fa) (fn : List DefE) (tf : List Defn) (ex : PySem.W.Frag → Bool) : PySem.W.Hook where
  α := Bool × AlE
  obs := fun s => obsFG n fa fn tf ex s.heap.get?
  val := fun _ => (true, valE fn)
  says := fun _ h => ∃ K : PySem.W.Frag, K.In h ∧ SaysF fa fn tf ex h K
  of := fun _ _ e => ⟨_, frT_in, saysF_of e⟩
  keeps := fun _ _ _ ⟨K, hK, c⟩ k => ⟨K, PySem.W.Frag.In.keeps hK k, ⟨c.c, c.sm, c.hd, c.out, fun p hp => k _ _ (c.empty p hp)⟩⟩
theorem obsFG_eq {n : Nat} {fa : List Fa} {fn : List DefE} {tf : List Defn} {ex : PySem.W.Frag → Bool} {g : Addr → Option Obj} {s : Shared} (h : ∀ a, g a = s.heap.get? a) : obsFG n fa fn tf ex g = (hookF n fa fn tf ex).obs s := by
  have e : g = s.heap.get? := funext h
  rw [e] <;> rfl
/-- the code objects and tables of these defs -/
def cTs (K : PySem.W.Frag) (tf : List Defn) : List (Addr × Addr) := tf.map fun p => cT K p
theorem tbl0_of {fa : List Fa} {fn : List DefE} {tf : List Defn} {ex : PySem.W.Frag → Bool} {h : Heap} {K : PySem.W.Frag} (X : K.In h) (c : SaysF fa fn tf ex h K) : ∀ p ∈ cTs K tf, My.Tbl0 K h p := fun p hp => by
  obtain ⟨q, hq, rfl⟩ := List.mem_map.mp hp
  exact ⟨PySem.W.codeHd_of_K X (c.hd q hq), c.empty q hq, c.out q hq⟩
end Hk
namespace My
open PySem PySem.Spec PyProof.Rows L2 He LamX
section
variable {P : Program} {w : World} {K : PySem.W.Frag} {mg : Str → Option Value} {base : Heap} {k : Nat} {x qual : Str} {params : Arguments} {body : List Stmt} {scope : Scope} {dvs : List V} {kws : List (Str × V)} {fd : FuncData} {N ps : List Str} {sp : Sp} {CX : CXT}
end
end My

set_option Elab.async false
set_option linter.all false
set_option maxRecDepth 100000
set_option maxHeartbeats 4000000
/-! LayR: repr of a pair of a text and a dict; what stays while lambdas are made -/
namespace My
open PySem PySem.Spec PyProof.Rows L2 LamX
/-! ### what stays -/
section
variable {K : PySem.W.Frag} {H H' : Hp}
theorem rdE {a : Addr} {u : HO} (s : ExtN H H') (h : Rd H a u) (n : ∀ ps, u ≠ .tbl ps) : Rd H' a u := h.elim (fun e => .inl (s _ _ e n)) fun ⟨o, e⟩ => .inr ⟨o, s _ _ e fun _ z => nomatch z⟩
theorem sqE {a : Addr} {xs : List V} (h : SqL K H a xs) (s : ExtN H H') : SqL K H' a xs := h.elim (fun e => .inl (rdE s e fun _ z => nomatch z)) .inr
theorem tupE {a : Addr} {xs : List V} (h : SqT K H a xs) (s : ExtN H H') : SqT K H' a xs := h.elim (fun e => .inl (rdE s e fun _ z => nomatch z)) .inr
mutual
theorem dpE (s : ExtN H H') : ∀ {d : PyData} {x : V}, Dp K H x d → Dp K H' x d
  | _, _, .non => .non
  | _, _, .bl b => .bl b
  | _, _, .int i => .int i
  | _, _, .str x => .str x
  | _, _, .lst h k => .lst (sqE h s) (dpAllE s k)
  | _, _, .tup h k => .tup (tupE h s) (dpAllE s k)
theorem dpAllE (s : ExtN H H') : ∀ {ds : List PyData} {xs : List V}, DpAll K H xs ds → DpAll K H' xs ds
  | _, _, .nil => .nil
  | _, _, .cons h k => .cons (dpE s h) (dpAllE s k)
end
end
/-! ### repr of a pair of a text and a thing -/
inductive DpU (K : PySem.W.Frag) (H : Hp) : V → PyData → Prop
  | one {x : V} {d : PyData} (h : DpT K H x d) : DpU K H x d
  | two {a : Addr} {s : Str} {x : V} {d : PyData} (h : SqL K H a [.str s, x]) (k : DpT K H x d) : DpU K H (.ref a) (.list [.str s, d])
section
variable {X : Cx} {pins : List (Addr × Obj)} {σ : L2.St} {H : Hp} {s : Shared}
end
end My

set_option Elab.async false
set_option linter.all false
set_option maxRecDepth 100000
set_option maxHeartbeats 4000000
/-! LayS: tuple * int, also for 0 and 1; names of lambdas -/
namespace My
open PySem PySem.Spec PyProof.Rows L2 LamX
section
variable {X : Cx}
end
/-! ### a comprehension over a range that also writes the object at p -/
section
variable {K : PySem.W.Frag} {σ : L2.St} {H : Hp} {tb te : TE} {Q : VK} {g : TG} {tt : TT} {vs : List Nat}
end
theorem tabsB {T : List (Addr × Str)} {p : Addr} {xs : List V} {H H' : Hp} (h : LamX.Tabs T H) (hp : H p = some (.lst xs)) (b : But p H H') : LamX.Tabs T H' := fun r hr => by
  obtain ⟨ps, h1, h2, h3⟩ := h r hr
  refine ⟨ps, b _ _ (fun z => ?_) h1, h2, fun pos cv hc => ?_⟩
  · rw [z, hp] at h1
    cases h1
  · obtain ⟨c, e1, e2⟩ := h3 pos cv hc
    refine ⟨c, e1, b _ _ (fun z => ?_) e2⟩
    rw [z, hp] at e2
    unfold CodeO at e2
    cases e2
/-! ### tuples joined, cut, repeated: the tuple that is there then -/
section
variable {K : PySem.W.Frag} {H : Hp} {Q : VK} {a b : Addr} {xs ys : List V}
theorem f_tuple (h1 : H a = some (.lst xs)) (k : ∀ p H', H' p = some (.tup xs) → Same H H' → H p = none → Q (.ref p) H') : (∃ p ys, [V.ref a] = [.ref p] ∧ ((SqL K H p ys ∧ ∀ l, H l = none → Q (.ref l) (upd H l (.tup ys))) ∨ (SqT K H p ys ∧ Q (.ref p) H))) :=
  ⟨a, xs, rfl, .inl ⟨SqL.of h1, fun l hl => k l _ upd_same (My.Same.new (Same.refl H) hl) hl⟩⟩
end
/-- the name of a lambda of the def x -/
def lamN (x : Str) : Str := x ++ ".<locals>." ++ "<lambda>"
/-- the table of the def x, and the name of what is made there -/
def lamT (K : PySem.W.Frag) (x : Str) : List (Addr × Str) := [((He.cT K (x, none)).2, lamN x)]
end My

set_option Elab.async false
set_option linter.all false
set_option maxRecDepth 100000
set_option maxHeartbeats 4000000
/-! LayT: more steps; readings that name the heap behind a new object -/
namespace My
open PySem PySem.Spec PyProof.Rows L2
section
variable {K : PySem.W.Frag} {σ : L2.St} {H : Hp} {te t t' : TE} {tA : TA} {Q : VK} {X : Cx} {e : Expr} {es : List Expr} {pos : Pos}
theorem r_lstRg1 (h : te σ H fun x H1 => ∃ n, x = .int n ∧ RgOk 0 n ∧ ∀ q, H1 q = none → Q (.ref q) (upd H1 q (.lst (rgV 0 n)))) : tLstRg (tRg1 te) σ H Q := h
theorem r_tupRg1 (h : te σ H fun x H1 => ∃ n, x = .int n ∧ RgOk 0 n ∧ ∀ q, H1 q = none → Q (.ref q) (upd H1 q (.tup (rgV 0 n)))) : tTupRg (tRg1 te) σ H Q := h
/-- what is to be said of a new object o -/
def NewO (H : Hp) (o : HO) (Q : VK) : Prop := ∀ p H', H p = none → H' p = some o → Same H H' → Q (.ref p) H'
theorem NewO.to {o : HO} (h : NewO H o Q) : ∀ p, H p = none → Q (.ref p) (upd H p o) := fun p hp => h p _ hp upd_same (My.Same.new (Same.refl H) hp)
def tTupN (t : TA) : TE := fun σ H Q => t σ H fun xs H1 => xs.length ≤ sizeLine ∧ NewO H1 (.tup xs) Q
def tLstN (t : TA) : TE := fun σ H Q => t σ H fun xs H1 => xs.length ≤ sizeLine ∧ NewO H1 (.lst xs) Q
def tDNewN : TE := fun _ H Q => NewO H (.dK []) Q
theorem r_tupN (h : tA σ H fun xs H1 => xs.length ≤ sizeLine ∧ NewO H1 (.tup xs) Q) : tTupN tA σ H Q := h
theorem r_lstN (h : tA σ H fun xs H1 => xs.length ≤ sizeLine ∧ NewO H1 (.lst xs) Q) : tLstN tA σ H Q := h
theorem r_dnewN (h : NewO H (.dK []) Q) : tDNewN σ H Q := h
def rListN (K : PySem.W.Frag) : List V → Hp → VK → Prop := fun xs H Q => ∃ p ys, xs = [.ref p] ∧ (SqL K H p ys ∨ SqT K H p ys) ∧ NewO H (.lst ys) Q
def rTupleN (K : PySem.W.Frag) : List V → Hp → VK → Prop := fun xs H Q => ∃ p ys, xs = [.ref p] ∧ ((SqL K H p ys ∧ NewO H (.tup ys) Q) ∨ (SqT K H p ys ∧ Q (.ref p) H))
theorem r_listN {p : Addr} {ys : List V} (h : SqL K H p ys ∨ SqT K H p ys) (q : NewO H (.lst ys) Q) : rListN K [.ref p] H Q := ⟨p, ys, rfl, h, q⟩
theorem r_tupleN {p : Addr} {ys : List V} (h : SqL K H p ys) (q : NewO H (.tup ys) Q) : rTupleN K [.ref p] H Q := ⟨p, ys, rfl, .inl ⟨h, q⟩⟩
def rSlLN (K : PySem.W.Frag) : V → Option Int → Option Int → Hp → VK → Prop := fun x lo hi H Q => ∃ a xs, x = .ref a ∧ SqL K H a xs ∧ NewO H (.lst (cutV xs lo hi)) Q
theorem r_slLN {p : Addr} {xs : List V} {lo hi : Option Int} (h : SqL K H p xs) (q : NewO H (.lst (cutV xs lo hi)) Q) : rSlLN K (.ref p) lo hi H Q := ⟨p, xs, rfl, h, q⟩
def rCatN : R2 := fun x y H Q => ∃ l b xs zs, x = .ref l ∧ y = .ref b ∧ H l = some (.lst xs) ∧ H b = some (.lst zs) ∧ xs.length + zs.length ≤ sizeLine ∧ NewO H (.lst (xs ++ zs)) Q
theorem r_catN {a b : Addr} {xs zs : List V} (h1 : H a = some (.lst xs)) (h2 : H b = some (.lst zs)) (hz : xs.length + zs.length ≤ 1000) (q : NewO H (.lst (xs ++ zs)) Q) : rCatN (.ref a) (.ref b) H Q := ⟨a, b, xs, zs, rfl, rfl, h1, h2, sz hz, q⟩
def rRepN : R2 := fun x y H Q => ∃ l k xs, x = .ref l ∧ y = .int k ∧ H l = some (.lst xs) ∧ -(2 ^ 63) ≤ k ∧ k < 2 ^ 63 ∧ xs.length * k.toNat ≤ sizeLine ∧ NewO H (.lst (List.replicate k.toNat xs).flatten) Q
theorem r_repN {a : Addr} {k : Int} {xs : List V} (h1 : H a = some (.lst xs)) (h2 : 0 ≤ k) (h3 : xs.length * k.toNat ≤ 1000) (h4 : k ≤ 1000) (q : NewO H (.lst (List.replicate k.toNat xs).flatten) Q) : rRepN (.ref a) (.int k) H Q := ⟨a, k, xs, rfl, rfl, h1, by omega, by omega, sz h3, q⟩
/-! draws from a list of three ints that keep a condition -/
def Pu (C : Int → Int → Int → Prop) (H : Hp) (p : Addr) : Prop := ∃ a b c : Int, H p = some (.lst [.int a, .int b, .int c]) ∧ C a b c
variable {C : Int → Int → Int → Prop}
theorem Pu.same {H H' : Hp} {p : Addr} (h : Pu C H p) (s : Same H H') : Pu C H' p := let ⟨a, b, c, e, q⟩ := h; ⟨a, b, c, s _ _ e, q⟩
theorem Pu.ne {p l : Addr} (h : Pu C H p) (n : H l = none) : l ≠ p := let ⟨_, _, _, e, _⟩ := h; (ne_of_none e n).symm
theorem Pu.but {H H' : Hp} {p D : Addr} (h : Pu C H p) (n : D ≠ p) (b : But D H H') : Pu C H' p := let ⟨x, y, z, e, q⟩ := h; ⟨x, y, z, b.at (Ne.symm n) e, q⟩
end
end My

set_option Elab.async false
set_option linter.all false
set_option maxRecDepth 100000
set_option maxHeartbeats 4000000
/-! LayU: reversed ranges in comprehensions, tuples of any kind, truth values compared -/
namespace My
open PySem PySem.Spec PyProof.Rows L2
section
variable {K : PySem.W.Frag} {σ : L2.St} {H : Hp} {te t t' : TE} {tA : TA} {Q : VK} {X : Cx} {g : TG} {tt : TT} {vs : List Nat}
/-- a comprehension over reversed(range(n)) -/
def RvL (n : Int) (g : TG) (tt : TT) (te : TE) (vs : List Nat) (σ : L2.St) (H : Hp) (Q : VK) : Prop := -(2 ^ 62) ≤ (0 : Int) ∧ (0 : Int) < 2 ^ 62 ∧ -(2 ^ 62) ≤ n ∧ n < 2 ^ 62 ∧ LcG (Itc (0 + (((n - 0).toNat : Nat) : Int) - 1) (-1) (n - 0).toNat) g tt te vs σ H Q
theorem r_lcRV {t0 : TE} (h : t0 σ H fun x H1 => ∃ n : Int, x = .int n ∧ RvL n g tt te vs σ H1 Q) : tLc (iRevR (tRg1 t0)) g tt te vs σ H Q := h
theorem tyT {a : Addr} {xs : List V} (h : SqT K H a xs) : TyX K H (.ref a) (.type "tuple") := by
  rcases h with (h | ⟨o, h⟩) | ⟨o, its, n, h, c, _⟩
  · exact (Kd.tup h).ty
  · exact .fTuple h
  · exact .kTuple h c
end
end My

set_option Elab.async false
set_option linter.all false
set_option maxRecDepth 100000
set_option maxHeartbeats 4000000
/-! LayV: classes, methods, classmethods that may raise, within a try's body; one of two readings of a call -/
namespace My
open PySem PySem.Spec PyProof.Rows L2
section
variable {X : Cx} {CX : CXT} {k j : Nat} {f C : Addr} {x m : Str} {ps : List Str} {dvs : List V} {sp : Sp} {E : L2.St → XK} {o e : Expr} {es : List Expr} {p pos apos : Pos} {t : TA} {ta : TE}
/-- C(e, ..) in a try's body -/
def tMakeS (C : Addr) (sp : Sp) (dvs : List V) (E : L2.St → XK) (t : TA) : TE := fun σ H Q => t σ H fun vs H1 => ∀ x dx, H1 x = none → H1 dx = none → dx ≠ x → sp (.ref x :: (vs ++ dvs)) (upd (upd H1 dx (.own x)) x (.ins C dx [])) (fun v H2 => v = .non ∧ Q (.ref x) H2) (E σ)
/-- o.m(e, ..) in a try's body -/
def tMethS (C : Addr) (m : Str) (sp : Sp) (dvs : List V) (E : L2.St → XK) (ta : TE) (t : TA) : TE := fun σ H Q => ta σ H fun x H1 => ∃ a dx fs, x = .ref a ∧ H1 a = some (.ins C dx fs) ∧ fs.lookup m = none ∧ t σ H1 fun vs H2 => sp (x :: (vs ++ dvs)) H2 Q (E σ)
/-- C.m(e, ..), m a classmethod, in a try's body -/
def tCMethS (C : Addr) (sp : Sp) (E : L2.St → XK) (ta : TE) (t : TA) : TE := fun σ H Q => ta σ H fun x H1 => x = .ref C ∧ t σ H1 fun vs H2 => sp (.ref C :: vs) H2 Q (E σ)
end
section
variable {σ : L2.St} {H : Hp} {ta : TE} {Q : VK} {tA : TA} {C : Addr} {sp : Sp} {dvs : List V} {E : L2.St → XK}
theorem r_makeS (h : tA σ H fun vs H1 => ∀ x dx, H1 x = none → H1 dx = none → dx ≠ x → sp (.ref x :: (vs ++ dvs)) (upd (upd H1 dx (.own x)) x (.ins C dx [])) (fun v H2 => v = .non ∧ Q (.ref x) H2) (E σ)) : tMakeS C sp dvs E tA σ H Q := h
theorem r_cmS (h : ta σ H fun x H1 => x = .ref C ∧ tA σ H1 fun vs H2 => sp (.ref C :: vs) H2 Q (E σ)) : tCMethS C sp E ta tA σ H Q := h
theorem r_methS {m : Str} (h : ta σ H fun x H1 => ∃ a dx fs, x = .ref a ∧ H1 a = some (.ins C dx fs) ∧ fs.lookup m = none ∧ tA σ H1 fun vs H2 => sp (x :: (vs ++ dvs)) H2 Q (E σ)) : tMethS C m sp dvs E ta tA σ H Q := h
end
end My

set_option Elab.async false
set_option linter.all false
set_option maxRecDepth 100000
set_option maxHeartbeats 4000000
/-! LayW: chains of three comparisons; comprehensions over the signs of a text -/
namespace My
open PySem PySem.Spec PyProof.Rows L2 SX
section
variable {X : Cx} {a b c d : Expr} {ta tb tc td : TE} {pos : Pos}
/-- a op1 b op2 c op3 d -/
def tChain3 (r r' r'' : R2) (ta tb tc td : TE) : TE := fun σ H Q => ta σ H fun x H1 => tb σ H1 fun y H2 => r x y H2 fun z H3 => ∃ k, z = .bl k ∧
  (if k = true then tc σ H3 fun w' H4 => r' y w' H4 fun z2 H5 => ∃ k2, z2 = .bl k2 ∧ (if k2 = true then td σ H5 fun w2 H6 => r'' w' w2 H6 Q else Q (.bl false) H5) else Q (.bl false) H3)
end
section
variable {σ : L2.St} {H : Hp} {ta tb tc td : TE} {Q : VK}
theorem r_chain3 {r r' r'' : R2} (h : ta σ H fun x H1 => tb σ H1 fun y H2 => r x y H2 fun z H3 => ∃ k, z = .bl k ∧
  (if k = true then tc σ H3 fun w' H4 => r' y w' H4 fun z2 H5 => ∃ k2, z2 = .bl k2 ∧ (if k2 = true then td σ H5 fun w2 H6 => r'' w' w2 H6 Q else Q (.bl false) H5) else Q (.bl false) H3)) : tChain3 r r' r'' ta tb tc td σ H Q := h
end
section
variable {K : PySem.W.Frag} {σ : L2.St} {H : Hp} {te t0 : TE} {Q : VK} {g : TG} {tt : TT} {vs : List Nat}
theorem r_lcS (h : t0 σ H fun v H1 => ∃ x, v = .str x ∧ LcG (Its x) g tt te vs σ H1 Q) : tLc (iStr t0) g tt te vs σ H Q := h
end
/-! repr, also where an error is handled -/
section
variable {X : Cx} {pins : List (Addr × Obj)} {σ : L2.St} {H : Hp} {s : Shared}
theorem call_reprTg (hg : X.A.guards = some []) (hu : X.A.units + 64 < cLine) : CallR X (.builtin "repr") (rReprT X.K) := by
  intro pins s σ H xs us Q I r h
  obtain ⟨x, d, rfl, hd, h1, h3, h4, q⟩ := h
  obtain ⟨u, rfl, rx⟩ := vals1 r
  have fin : ∀ {a : Addr} {as : List Addr}, u = .ref a → Reads s.heap (.ref a) d as → (d.hasDict = true → sysModules ∉ as) → wpAny (model X.prog X.w) X.A (call (.builtin "repr") [u]) (EP X pins σ Q) X.xe s := fun {a as} e R hs => by
    subst e
    refine repr_of_reads' R h1 hs hg (by omega) (fun _ _ z => z) (fun h' u tk hk => ?_) h4
    exact ⟨.str d.shown, H, I.kept (t' := tk) hk, ⟨u, rfl⟩, q⟩
  cases hd with
  | pl hd hn =>
    cases hd with
    | non =>
      obtain rfl : u = Value.none := rx
      exact PySem.P.repr_of_none ⟨.str _, H, I.tok _, ⟨_, rfl⟩, q⟩
    | bl b =>
      obtain rfl : u = Value.bool b := rx
      exact PySem.P.repr_of_bool ⟨.str _, H, I.tok _, ⟨_, rfl⟩, q⟩
    | int i =>
      obtain ⟨t, rfl⟩ := (show ∃ t, u = Value.int i t from rx)
      exact PySem.P.repr_of_int (of_decide_eq_true h1) ⟨.str _, H, I.tok _, ⟨_, rfl⟩, q⟩
    | str y =>
      obtain ⟨t, rfl⟩ := (show ∃ t, u = Value.str y t from rx)
      exact PySem.P.repr_of_str ⟨.str _, H, I.tok _, ⟨_, rfl⟩, q⟩ h4
    | lst hs ha =>
      obtain ⟨as, R⟩ := Dp.reads I _ _ _ (.lst hs ha) rx
      exact fin rx (by cases (show u = Value.ref _ from rx); exact R) (PyData.noDict_hsm hn)
    | tup hs ha =>
      obtain ⟨as, R⟩ := Dp.reads I _ _ _ (.tup hs ha) rx
      exact fin rx (by cases (show u = Value.ref _ from rx); exact R) (PyData.noDict_hsm hn)
  | dct hs =>
    obtain ⟨R, n⟩ := dict_reads I hs
    exact fin rx R fun _ m => n (List.mem_singleton.mp m).symm
end
section
variable {X : Cx} {k : Nat} {f a C : Addr} {oe : Obj} {fd : FuncData} {ps : List Str} {sp : SpQ} {pn : List (Addr × Obj)}
end
section
variable {σ : L2.St} {H : Hp} {nx bk ct : L2.St → Hp → Prop} {rt : VK} {tA : TA}
theorem r_par3 {i j l : Nat} (h : tA σ H fun vs H1 => ∃ u v w, vs = [u, v, w] ∧ nx (((σ.set i (some u)).set j (some v)).set l (some w)) H1) : tPar3 i j l tA ⟨nx, rt, bk, ct⟩ σ H := h
theorem r_three {u v w : V} {F : V → V → V → Prop} (h : F u v w) : ∃ a b c, ([u, v, w] : List V) = [a, b, c] ∧ F a b c := ⟨u, v, w, rfl, h⟩
end
end My

set_option Elab.async false
set_option linter.all false
set_option maxRecDepth 100000
set_option maxHeartbeats 4000000
/-! LayX: defs with a star parameter, where no repr is under way -/
namespace My
open PySem PySem.Spec PyProof.Rows L2
/-- the def at f keeps its promise at any arguments by position -/
structure Gs (P : Program) (w : World) (K : PySem.W.Frag) (mg : Str → Option Value) (base : Heap) (CX : CXT) (k : Nat) (f : Addr) (sp : Sp) : Prop where
  run : ∀ (A : Around) (outer : List Env) (s : Shared) (H : Hp) (us : List Value) (vs : List V) (Q : VK) (E : XK), RG k A → Env0 P w K mg base A outer s H → K.In s.heap → Vals vs us → sp vs H Q E →
    codeAny (model P w) A (.call (.ref f) ⟨us, []⟩) (CR CX outer P w H s Q E) s
  kp : PySem.W.keepIn K (.ref f) = true
section
variable {CX : CXT} {P : Program} {w : World} {K : PySem.W.Frag} {mg : Str → Option Value} {base : Heap} {k : Nat} {f : Addr} {x qual : Str} {params : Arguments} {body : List Stmt} {scope : Scope} {kws : List (Str × V)} {fd : FuncData} {N ps : List Str} {dvs : List V} {sp : Sp}
end
section
variable {X : Cx} {CX : CXT} {k j : Nat} {f C : Addr} {x : Str} {sp : Sp} {E : XK} {e : Expr} {es : List Expr} {p pos sp_ : Pos} {t : TA} {te : TE}
end
section
variable {K : PySem.W.Frag} {σ : L2.St} {H : Hp} {te : TE} {tA : TA} {Q : VK} {C : Addr} {sp : Sp} {E : XK}
end
end My

set_option Elab.async false
set_option linter.all false
set_option maxRecDepth 100000
set_option maxHeartbeats 4000000
/-! DatA: data as trees over an abstract heap: what a value stands for, worlds, states, readings -/
namespace Dt
open PySem PySem.Spec PyProof.Rows L2 My

/-- a value as a tree; ptr: an object of the store, by its number; lsk: the script, a list of the heap or of the frame's facts; adr: an address -/
inductive D where
  | non | bl (b : Bool) | int (i : Int) | str (x : Str) | ty (n : String)
  | tup (xs : List D) | lst (xs : List D) | lsk (xs : List D) | dct (kvs : List (Key × D)) | ins (C : Str) (fs : List (Str × D))
  | cls (C : Str) | fn (f : Str) | ptr (n : Nat) | adr (a : Addr)

/-- the part of the heap that never changes, and where the store's objects stand -/
structure Wd where
  F : Hp
  m : Nat → Addr
  n : Nat

mutual
inductive Rep (K : PySem.W.Frag) (W : Wd) : D → V → Prop
  | non : Rep K W .non .non
  | bl (b : Bool) : Rep K W (.bl b) (.bl b)
  | int (i : Int) : Rep K W (.int i) (.int i)
  | str (x : Str) : Rep K W (.str x) (.str x)
  | ty (n : String) : Rep K W (.ty n) (.ty n)
  | tup {xs : List D} {vs : List V} {a : Addr} (h : SqT K W.F a vs) (r : Reps K W xs vs) : Rep K W (.tup xs) (.ref a)
  | lst {xs : List D} {vs : List V} {a : Addr} (h : Rd W.F a (.lst vs)) (r : Reps K W xs vs) : Rep K W (.lst xs) (.ref a)
  | lsk {xs : List D} {vs : List V} {a : Addr} (h : SqL K W.F a vs) (r : Reps K W xs vs) : Rep K W (.lsk xs) (.ref a)
  | dct {xs : List (Key × D)} {vs : List (Key × V)} {a : Addr} (h : W.F a = some (.dK vs)) (r : RepK K W xs vs) : Rep K W (.dct xs) (.ref a)
  | ins {C : Str} {fs : List (Str × D)} {vs : List (Str × V)} {a dx : Addr} (h : W.F a = some (.ins (He.ga K C) dx vs)) (r : RepF K W fs vs) : Rep K W (.ins C fs) (.ref a)
  | cls (C : Str) : Rep K W (.cls C) (.ref (He.ga K C))
  | fn (f : Str) : Rep K W (.fn f) (.ref (He.ga K f))
  | ptr {i : Nat} (h : i < W.n) : Rep K W (.ptr i) (.ref (W.m i))
  | adr (a : Addr) : Rep K W (.adr a) (.ref a)
inductive Reps (K : PySem.W.Frag) (W : Wd) : List D → List V → Prop
  | nil : Reps K W [] []
  | cons {d : D} {v : V} {ds : List D} {vs : List V} (h : Rep K W d v) (t : Reps K W ds vs) : Reps K W (d :: ds) (v :: vs)
inductive RepK (K : PySem.W.Frag) (W : Wd) : List (Key × D) → List (Key × V) → Prop
  | nil : RepK K W [] []
  | cons {k : Key} {d : D} {v : V} {ds : List (Key × D)} {vs : List (Key × V)} (h : Rep K W d v) (t : RepK K W ds vs) : RepK K W ((k, d) :: ds) ((k, v) :: vs)
inductive RepF (K : PySem.W.Frag) (W : Wd) : List (Str × D) → List (Str × V) → Prop
  | nil : RepF K W [] []
  | cons {k : Str} {d : D} {v : V} {ds : List (Str × D)} {vs : List (Str × V)} (h : Rep K W d v) (t : RepF K W ds vs) : RepF K W ((k, d) :: ds) ((k, v) :: vs)
end

/-- a later world -/
structure Wd.Le (W W' : Wd) : Prop where
  f : ∀ a o, W.F a = some o → W'.F a = some o
  n : W.n ≤ W'.n
  m : ∀ i, i < W.n → W'.m i = W.m i
theorem Wd.Le.refl {W : Wd} : W.Le W := ⟨fun _ _ h => h, Nat.le_refl _, fun _ _ => rfl⟩
theorem Wd.Le.trans {W W1 W2 : Wd} (a : W.Le W1) (b : W1.Le W2) : W.Le W2 := ⟨fun x o h => b.f x o (a.f x o h), Nat.le_trans a.n b.n, fun i h => (b.m i (Nat.lt_of_lt_of_le h a.n)).trans (a.m i h)⟩
theorem sqT_le {K : PySem.W.Frag} {F F' : Hp} {a : Addr} {vs : List V} (l : ∀ a o, F a = some o → F' a = some o) (h : SqT K F a vs) : SqT K F' a vs :=
  h.elim (fun h => .inl (h.elim (fun h => .inl (l _ _ h)) fun ⟨o, h⟩ => .inr ⟨o, l _ _ h⟩)) .inr
theorem rd_le {F F' : Hp} {a : Addr} {u : HO} (l : ∀ a o, F a = some o → F' a = some o) (h : Rd F a u) : Rd F' a u := h.elim (fun h => .inl (l _ _ h)) fun ⟨o, h⟩ => .inr ⟨o, l _ _ h⟩
theorem sqL_le {K : PySem.W.Frag} {F F' : Hp} {a : Addr} {vs : List V} (l : ∀ a o, F a = some o → F' a = some o) (h : SqL K F a vs) : SqL K F' a vs :=
  h.elim (fun h => .inl (h.elim (fun h => .inl (l _ _ h)) fun ⟨o, h⟩ => .inr ⟨o, l _ _ h⟩)) .inr
section
variable {K : PySem.W.Frag} {W W' : Wd}
mutual
theorem Rep.le (l : W.Le W') : ∀ {d : D} {v : V}, Rep K W d v → Rep K W' d v
  | _, _, .non => .non
  | _, _, .bl b => .bl b
  | _, _, .int b => .int b
  | _, _, .str b => .str b
  | _, _, .ty b => .ty b
  | _, _, .tup h r => .tup (sqT_le l.f h) (Reps.le l r)
  | _, _, .lst h r => .lst (rd_le l.f h) (Reps.le l r)
  | _, _, .lsk h r => .lsk (sqL_le l.f h) (Reps.le l r)
  | _, _, .dct h r => .dct (l.f _ _ h) (RepK.le l r)
  | _, _, .ins h r => .ins (l.f _ _ h) (RepF.le l r)
  | _, _, .cls b => .cls b
  | _, _, .fn b => .fn b
  | _, _, .adr b => .adr b
  | _, _, .ptr (i := i) h => by
    rw [← l.m i h]
    exact .ptr (Nat.lt_of_lt_of_le h l.n)
theorem Reps.le (l : W.Le W') : ∀ {d : List D} {v : List V}, Reps K W d v → Reps K W' d v
  | _, _, .nil => .nil
  | _, _, .cons h t => .cons (Rep.le l h) (Reps.le l t)
theorem RepK.le (l : W.Le W') : ∀ {d : List (Key × D)} {v : List (Key × V)}, RepK K W d v → RepK K W' d v
  | _, _, .nil => .nil
  | _, _, .cons h t => .cons (Rep.le l h) (RepK.le l t)
theorem RepF.le (l : W.Le W') : ∀ {d : List (Str × D)} {v : List (Str × V)}, RepF K W d v → RepF K W' d v
  | _, _, .nil => .nil
  | _, _, .cons h t => .cons (Rep.le l h) (RepF.le l t)
end
theorem Reps.len : ∀ {ds : List D} {vs : List V}, Reps K W ds vs → vs.length = ds.length
  | _, _, .nil => rfl
  | _, _, .cons _ t => congrArg (· + 1) t.len
theorem Reps.get : ∀ {ds : List D} {vs : List V} {i : Nat} {v : V}, Reps K W ds vs → vs[i]? = some v → ∃ d, ds[i]? = some d ∧ Rep K W d v
  | _, _, i, _, .nil, e => by simp at e
  | _, _, 0, _, .cons h _, e => by
    simp only [List.getElem?_cons_zero, Option.some.injEq] at e
    subst e
    exact ⟨_, rfl, h⟩
  | _, _, i + 1, _, .cons _ t, e => by
    obtain ⟨d, h1, h2⟩ := t.get (i := i) (by simpa using e)
    exact ⟨d, by simpa using h1, h2⟩
theorem Reps.at : ∀ {ds : List D} {vs : List V} {i : Nat} {d : D}, Reps K W ds vs → ds[i]? = some d → ∃ v, vs[i]? = some v ∧ Rep K W d v
  | _, _, i, _, .nil, e => by simp at e
  | _, _, 0, _, .cons h _, e => by
    simp only [List.getElem?_cons_zero, Option.some.injEq] at e
    subst e
    exact ⟨_, rfl, h⟩
  | _, _, i + 1, _, .cons _ t, e => by
    obtain ⟨d, h1, h2⟩ := t.at (i := i) (by simpa using e)
    exact ⟨d, by simpa using h1, h2⟩
theorem Reps.app : ∀ {ds es : List D} {vs us : List V}, Reps K W ds vs → Reps K W es us → Reps K W (ds ++ es) (vs ++ us)
  | _, _, _, _, .nil, h => h
  | _, _, _, _, .cons r t, h => .cons r (t.app h)
theorem Reps.drop : ∀ {ds : List D} {vs : List V} (i : Nat), Reps K W ds vs → Reps K W (ds.drop i) (vs.drop i)
  | _, _, 0, h => h
  | _, _, _ + 1, .nil => .nil
  | _, _, i + 1, .cons _ t => t.drop i
theorem Reps.take : ∀ {ds : List D} {vs : List V} (i : Nat), Reps K W ds vs → Reps K W (ds.take i) (vs.take i)
  | _, _, 0, _ => .nil
  | _, _, _ + 1, .nil => .nil
  | _, _, i + 1, .cons h t => .cons h (t.take i)
theorem Reps.set {d : D} {v : V} (h : Rep K W d v) : ∀ {ds : List D} {vs : List V} (i : Nat), Reps K W ds vs → Reps K W (ds.set i d) (vs.set i v)
  | _, _, _, .nil => .nil
  | _, _, 0, .cons _ t => .cons h t
  | _, _, i + 1, .cons r t => .cons r (Reps.set h i t)
theorem Reps.rev : ∀ {ds : List D} {vs : List V}, Reps K W ds vs → Reps K W ds.reverse vs.reverse
  | _, _, .nil => .nil
  | _, _, .cons h t => by
    rw [List.reverse_cons, List.reverse_cons]
    exact t.rev.app (.cons h .nil)
theorem Reps.split : ∀ {ds es : List D} {vs : List V}, Reps K W (ds ++ es) vs → ∃ us ws, vs = us ++ ws ∧ Reps K W ds us ∧ Reps K W es ws
  | [], _, vs, h => ⟨[], vs, rfl, .nil, h⟩
  | _ :: ds, _, _, .cons h t => by
    obtain ⟨us, ws, rfl, r1, r2⟩ := Reps.split (ds := ds) t
    exact ⟨_, ws, rfl, .cons h r1, r2⟩
theorem RepF.look (f : Str) : ∀ {fs : List (Str × D)} {vs : List (Str × V)}, RepF K W fs vs → (∃ d v, fs.lookup f = some d ∧ vs.lookup f = some v ∧ Rep K W d v) ∨ (fs.lookup f = none ∧ vs.lookup f = none)
  | _, _, .nil => .inr ⟨rfl, rfl⟩
  | _, _, .cons (k := k) (d := d) (v := v) h t => by
    rw [List.lookup_cons, List.lookup_cons]
    cases e : f == k with
    | true => exact .inl ⟨d, v, rfl, rfl, h⟩
    | false => exact RepF.look f t
/-- f: y among the fields -/
def putD (f : Str) (y : D) : List (Str × D) → List (Str × D)
  | [] => [(f, y)]
  | p :: r => if p.1 = f then (f, y) :: r else p :: putD f y r
theorem RepF.len : ∀ {ds : List (Str × D)} {vs : List (Str × V)}, RepF K W ds vs → vs.length = ds.length
  | _, _, .nil => rfl
  | _, _, .cons _ t => congrArg (· + 1) t.len
theorem RepK.len : ∀ {ds : List (Key × D)} {vs : List (Key × V)}, RepK K W ds vs → vs.length = ds.length
  | _, _, .nil => rfl
  | _, _, .cons _ t => congrArg (· + 1) t.len
end

/-- an object of the store -/
inductive Cell where
  | lst (xs : List D) | dct (kvs : List (Key × D)) | ins (C : Str) (fs : List (Str × D)) | no | tbl (P : Addr) (q : Str) | lck (o : HO) (kvs : List (Key × D))
abbrev Sto := List Cell
def RelC (K : PySem.W.Frag) (W : Wd) (H : Hp) (a : Addr) : Cell → Prop
  | .lst xs => ∃ vs, H a = some (.lst vs) ∧ Reps K W xs vs
  | .dct xs => ∃ vs, H a = some (.dK vs) ∧ RepK K W xs vs
  | .ins C fs => ∃ dx vs, H a = some (.ins (He.ga K C) dx vs) ∧ RepF K W fs vs
  | .no => True
  | .tbl P q => a = P ∧ ∃ ps : Array Value, H a = some (.tbl ps) ∧ TriplesOk ps.toList ∧ ∀ (pos : Pos) (cv : Value), codeAmong pos ps.toList = some cv → ∃ c, cv = .ref c ∧ W.F c = some (LamX.CodeO c q)
  | .lck o xs => H a = some o ∧ ∃ od vs, o = .frz od (.dK vs) ∧ RepK K W xs vs
/-- the heap is held -/
structure Ho (K : PySem.W.Frag) (W : Wd) (H : Hp) (S : Sto) : Prop where
  n : W.n = S.length
  fh : ∀ a o, W.F a = some o → H a = some o
  inj : ∀ i j, i < W.n → j < W.n → W.m i = W.m j → i = j
  mF : ∀ i, i < W.n → W.F (W.m i) = none
  there : ∀ i, i < W.n → ∃ o, H (W.m i) = some o
  cel : ∀ i c, S[i]? = some c → RelC K W H (W.m i) c
/-- what a piece of code may do to world and heap -/
structure Go (W : Wd) (H : Hp) (W' : Wd) (H' : Hp) : Prop where
  le : W.Le W'
  fn : ∀ a o, W'.F a = some o → W.F a = some o ∨ H a = none
  kp : ∀ a o, H a = some o → (∀ i, i < W.n → W.m i ≠ a) → H' a = some o
  mn : ∀ i, W.n ≤ i → i < W'.n → H (W'.m i) = none
theorem Go.refl {W : Wd} {H : Hp} : Go W H W H := ⟨.refl, fun _ _ h => .inl h, fun _ _ h _ => h, fun i h1 h2 => absurd h2 (Nat.not_lt.mpr h1)⟩
theorem Go.trans {K : PySem.W.Frag} {W W1 W2 : Wd} {H H1 H2 : Hp} {S : Sto} (a : Go W H W1 H1) (b : Go W1 H1 W2 H2) (h : Ho K W2 H2 S) : Go W H W2 H2 := by
  refine ⟨a.le.trans b.le, fun x o e => ?_, fun x o e n => ?_, fun i h1 h2 => ?_⟩
  · rcases b.fn x o e with e1 | e1
    · exact a.fn x o e1
    · refine .inr ?_
      cases q : H x with
      | none => rfl
      | some u =>
        by_cases z : ∃ i, i < W.n ∧ W.m i = x
        · obtain ⟨i, hi, rfl⟩ := z
          rw [← (a.le.trans b.le).m i hi, h.mF i (Nat.lt_of_lt_of_le hi (a.le.trans b.le).n)] at e
          cases e
        · rw [a.kp x u q fun i hi c => z ⟨i, hi, c⟩] at e1
          cases e1
  · refine b.kp x o (a.kp x o e n) fun i hi c => ?_
    by_cases z : i < W.n
    · exact n i z ((a.le.m i z).symm.trans c)
    · have := a.mn i (Nat.not_lt.mp z) hi
      rw [c, e] at this
      cases this
  · by_cases z : i < W1.n
    · rw [b.le.m i z]
      exact a.mn i h1 z
    · have e := b.mn i (Nat.not_lt.mp z) h2
      cases q : H (W2.m i) with
      | none => rfl
      | some u =>
        by_cases y : ∃ j, j < W.n ∧ W.m j = W2.m i
        · obtain ⟨j, hj, c⟩ := y
          rw [← (a.le.trans b.le).m j hj] at c
          have := h.inj j i (Nat.lt_of_lt_of_le hj (a.le.trans b.le).n) h2 c
          omega
        · rw [a.kp _ u q fun j hj c => y ⟨j, hj, c⟩] at e
          cases e
/-- an object that stands by itself stays -/
theorem Go.keep {K : PySem.W.Frag} {W W1 : Wd} {H H1 : Hp} {S : Sto} {a : Addr} {o : HO} (g : Go W H W1 H1) (h : Ho K W H S) (e : W.F a = some o) : H1 a = some o :=
  g.kp a o (h.fh a o e) fun i hi c => by
    have := h.mF i hi
    rw [c, e] at this
    cases this

/-- what an expression gives: a value; a list or a dict that is the frame's own, as it is now; the instance under way -/
inductive O where
  | v (d : D) | b (xs : List D) | bd (kvs : List (Key × D)) | s (C : Str) (fs : List (Str × D))
/-- a slot: nothing known; a value; a list, a dict of the frame's own; the instance under way -/
inductive Sl where
  | un | sh (d : D) | ol (xs : List D) | od (kvs : List (Key × D)) | slf (C : Str) (fs : List (Str × D)) | exc (C : Str) (fs : List (Str × D))
/-- the entry of a frame: the world and the heap there, the instance under way, the handled error -/
structure En where
  W : Wd
  H : Hp
  me : Addr
  pin : Option (Addr × Obj)
structure Own (en : En) (W : Wd) (H : Hp) (a : Addr) : Prop where
  f : W.F a = none
  e : en.H a = none
  m : ∀ i, i < W.n → W.m i ≠ a
/-- the error at p: its class, its fields -/
def XRep (K : PySem.W.Frag) (W : Wd) (C : Str) (fs : List (Str × D)) (cls : Value) (d : Option Addr) : Prop :=
  cls = .ref (He.ga K C) ∧ ((fs = [] ∧ d = none) ∨ ∃ dd vs, d = some dd ∧ W.F dd = some (.xd vs) ∧ RepF K W fs vs)
theorem XRep.le {K : PySem.W.Frag} {W W' : Wd} {C : Str} {fs : List (Str × D)} {cls : Value} {d : Option Addr} (l : W.Le W') (h : XRep K W C fs cls d) : XRep K W' C fs cls d :=
  ⟨h.1, h.2.imp id fun ⟨dd, vs, e, f, r⟩ => ⟨dd, vs, e, l.f _ _ f, r.le l⟩⟩
def RelS (K : PySem.W.Frag) (en : En) (W : Wd) (H : Hp) (sv : Option (Option V)) : Sl → Prop
  | .un => True
  | .sh d => ∃ v, sv = some (some v) ∧ Rep K W d v
  | .ol xs => ∃ a vs, sv = some (some (.ref a)) ∧ H a = some (.lst vs) ∧ Reps K W xs vs ∧ Own en W H a
  | .od xs => ∃ a vs, sv = some (some (.ref a)) ∧ H a = some (.dK vs) ∧ RepK K W xs vs ∧ Own en W H a
  | .slf C fs => ∃ dx vs, sv = some (some (.ref en.me)) ∧ H en.me = some (.ins (He.ga K C) dx vs) ∧ RepF K W fs vs ∧ Own en W H en.me
  | .exc C fs => ∃ p, en.pin = some p ∧ sv = some (some (.ref p.1)) ∧ XRep K W C fs p.2.cls p.2.dict
def isOwn : Sl → Bool
  | .ol _ => true
  | .od _ => true
  | .slf _ _ => true
  | _ => false
structure Rs (K : PySem.W.Frag) (en : En) (W : Wd) (σ : L2.St) (H : Hp) (ρ : List Sl) (S : Sto) : Prop where
  ho : Ho K W H S
  go : Go en.W en.H W H
  len : ρ.length = σ.length
  sl : ∀ (i : Nat) (s : Sl), ρ[i]? = some s → RelS K en W H σ[i]? s
  dis : ∀ (i j : Nat) (s t : Sl) (a : Addr), i ≠ j → ρ[i]? = some s → isOwn s = true → ρ[j]? = some t → isOwn t = true → σ[i]? = some (some (.ref a)) → σ[j]? = some (some (.ref a)) → False
theorem Own.go {en : En} {W W' : Wd} {H H' : Hp} {a : Addr} {o : HO} (w : Own en W H a) (g : Go W H W' H') (e : H a = some o) : Own en W' H' a := by
  refine ⟨?_, w.e, fun i hi c => ?_⟩
  · cases q : W'.F a with
    | none => rfl
    | some u =>
      rcases g.fn a u q with z | z
      · rw [w.f] at z
        cases z
      · rw [e] at z
        cases z
  · by_cases z : i < W.n
    · exact w.m i z ((g.le.m i z).symm.trans c)
    · have := g.mn i (Nat.not_lt.mp z) hi
      rw [c, e] at this
      cases this
theorem RelS.go {K : PySem.W.Frag} {en : En} {W W' : Wd} {H H' : Hp} {sv : Option (Option V)} {s : Sl} (g : Go W H W' H') (h : RelS K en W H sv s) : RelS K en W' H' sv s := by
  cases s with
  | un => trivial
  | sh d =>
    obtain ⟨v, e, r⟩ := h
    exact ⟨v, e, r.le g.le⟩
  | ol xs =>
    obtain ⟨a, vs, e, q, r, w⟩ := h
    exact ⟨a, vs, e, g.kp _ _ q w.m, r.le g.le, w.go g q⟩
  | od xs =>
    obtain ⟨a, vs, e, q, r, w⟩ := h
    exact ⟨a, vs, e, g.kp _ _ q w.m, r.le g.le, w.go g q⟩
  | slf C fs =>
    obtain ⟨dx, vs, e, q, r, w⟩ := h
    exact ⟨dx, vs, e, g.kp _ _ q w.m, r.le g.le, w.go g q⟩
  | exc C fs =>
    obtain ⟨p, e, q, r⟩ := h
    exact ⟨p, e, q, r.le g.le⟩
/-- behind an expression -/
theorem Rs.after {K : PySem.W.Frag} {en : En} {W W' : Wd} {σ : L2.St} {H H' : Hp} {ρ : List Sl} {S S' : Sto} (r : Rs K en W σ H ρ S) (h : Ho K W' H' S') (g : Go W H W' H') : Rs K en W' σ H' ρ S' :=
  ⟨h, r.go.trans g h, r.len, fun i s e => (r.sl i s e).go g, r.dis⟩
def RepO (K : PySem.W.Frag) (en : En) (W : Wd) (H : Hp) : O → V → Prop
  | .v d, v => Rep K W d v
  | .b xs, v => ∃ a vs, v = .ref a ∧ H a = some (.lst vs) ∧ Reps K W xs vs ∧ Own en W H a
  | .bd xs, v => ∃ a vs, v = .ref a ∧ H a = some (.dK vs) ∧ RepK K W xs vs ∧ Own en W H a
  | .s C fs, v => ∃ dx vs, v = .ref en.me ∧ H en.me = some (.ins (He.ga K C) dx vs) ∧ RepF K W fs vs ∧ Own en W H en.me
theorem RepO.go {K : PySem.W.Frag} {en : En} {W W' : Wd} {H H' : Hp} {o : O} {v : V} (g : Go W H W' H') (h : RepO K en W H o v) : RepO K en W' H' o v := by
  cases o with
  | v d => exact Rep.le g.le h
  | b xs =>
    obtain ⟨a, vs, e, q, r, w⟩ := h
    exact ⟨a, vs, e, g.kp _ _ q w.m, r.le g.le, w.go g q⟩
  | bd xs =>
    obtain ⟨a, vs, e, q, r, w⟩ := h
    exact ⟨a, vs, e, g.kp _ _ q w.m, r.le g.le, w.go g q⟩
  | s C fs =>
    obtain ⟨dx, vs, e, q, r, w⟩ := h
    exact ⟨dx, vs, e, g.kp _ _ q w.m, r.le g.le, w.go g q⟩
end Dt

set_option Elab.async false
set_option linter.all false
set_option maxRecDepth 100000
set_option maxHeartbeats 4000000
/-! DatB: judgements over trees, operators by their meaning, expressions -/
namespace Dt
open PySem PySem.Spec PyProof.Rows L2 My
/-- what holds through a law -/
structure Bs where
  P : Program
  w : World
  K : PySem.W.Frag
  mg : Str → Option Value
  base : Heap
  hot : Bool
  /-- a generator's body: the guards are not known, no handler's body -/
  gen : Bool
/-- neither a handler's body -/
abbrev Bs.cal (B : Bs) : Bool := B.hot && !B.gen
abbrev Bs.gn (B : Bs) : Bool := B.hot && B.gen
structure FitsB (B : Bs) (k : Nat) (X : Cx) (en : En) : Prop where
  P : X.prog = B.P
  w : X.w = B.w
  K : X.K = B.K
  mg : X.mg = B.mg
  base : X.base = B.base
  rm : L2H.RoomH k X.A
  gd : B.gn = false → X.A.guards = some []
  cm : B.cal = false → X.calm = true ∧ X.A.handled = none
  pin : ∀ p, en.pin = some p → p ∈ X.pn ∧ ∃ vs : Array Value, p.2.data = .fields vs
  nq : B.cal = false → en.pin = none
structure Cf where
  B : Bs
  k : Nat
  N : List Str
  sc : Scope
  lp : Bool
  fn : Str → Bool
  tr : Bool
  ax : Cx → En → Prop
  axt : ∀ (X : Cx) (en : En) (pn : List (Addr × Obj)) (xe : Value → Shared → Prop), ax X en → ax (X.tr pn xe) en
structure Fits (G : Cf) (X : Cx) (en : En) : Prop where
  b : FitsB G.B G.k X en
  N : X.N = G.N
  sc : X.env.scope = G.sc
  nd : X.N.Nodup
  fn : ∀ x, G.fn x = true → X.fn x = true
  po : G.lp = true → PassesOwn (model X.prog X.w) X.A X.env X.xe
  st : G.tr = true → X.stack = X.env :: X.outer ∧ X.env.frame = some X.env.locals
  ax : G.ax X en
theorem FitsB.calm {B : Bs} {k : Nat} {X : Cx} {en : En} (f : FitsB B k X en) (h : B.hot = false) : X.calm = true ∧ X.A.handled = none := f.cm (by simp [h])
theorem FitsB.np {B : Bs} {k : Nat} {X : Cx} {en : En} (f : FitsB B k X en) (h : B.hot = false) : en.pin = none := f.nq (by simp [h])
theorem FitsB.g {B : Bs} {k : Nat} {X : Cx} {en : En} (f : FitsB B k X en) (h : B.gn = false) : X.A.guards = some [] := f.gd h
theorem FitsB.rg {B : Bs} {k : Nat} {X : Cx} {en : En} (f : FitsB B k X en) (h : B.hot = false) : RG k X.A := ⟨⟨(f.calm h).2, f.rm.dp, f.rm.un⟩, f.gd (by simp [h])⟩
theorem FitsB.units {B : Bs} {k : Nat} {X : Cx} {en : En} (f : FitsB B k X en) : X.A.units + 64 < cLine := by
  have := f.rm.un
  omega
theorem FitsB.mono {B : Bs} {j k : Nat} {X : Cx} {en : En} (f : FitsB B k X en) (h : j ≤ k) : FitsB B j X en := ⟨f.P, f.w, f.K, f.mg, f.base, f.rm.mono h, f.gd, f.cm, f.pin, f.nq⟩

abbrev QO := O → Sto → Prop
abbrev XS := Str → List (Str × D) → Sto → Prop
abbrev XD := List Sl → XS
abbrev RE := List Sl → Sto → XD → QO → Prop
abbrev RT := List Sl → Sto → XD → (Bool → Sto → Prop) → Prop
abbrev RA := List Sl → Sto → XD → (List O → Sto → Prop) → Prop

/-- an expression's wish, below -/
def Nx (K : PySem.W.Frag) (en : En) (W : Wd) (H : Hp) (Q : QO) : VK := fun v H' => ∃ W' o S', Ho K W' H' S' ∧ Go W H W' H' ∧ RepO K en W' H' o v ∧ Q o S'
def NxB (K : PySem.W.Frag) (W : Wd) (H : Hp) (Q : Bool → Sto → Prop) : Bool → Hp → Prop := fun c H' => ∃ W' S', Ho K W' H' S' ∧ Go W H W' H' ∧ Q c S'
abbrev RepOs (K : PySem.W.Frag) (en : En) (W : Wd) (H : Hp) : List O → List V → Prop := Paired (RepO K en W H)
def NxA (K : PySem.W.Frag) (en : En) (W : Wd) (H : Hp) (Q : List O → Sto → Prop) : List V → Hp → Prop := fun vs H' => ∃ W' os S', Ho K W' H' S' ∧ Go W H W' H' ∧ RepOs K en W' H' os vs ∧ Q os S'
/-- an error on its way out of an operation -/
def XN (K : PySem.W.Frag) (W : Wd) (H : Hp) (σ : L2.St) (Ex : XS) : WX := fun cls d σ' H' => σ' = σ ∧ ∃ C fs W' S', XRep K W' C fs cls d ∧ Ho K W' H' S' ∧ Go W H W' H' ∧ Ex C fs S'
/-- .. out of a piece of the frame -/
def XT (K : PySem.W.Frag) (en : En) (W0 : Wd) (E : XD) : WX := fun cls d σ H => ∃ C fs W ρ S, XRep K W C fs cls d ∧ Rs K en W σ H ρ S ∧ W0.Le W ∧ E ρ C fs S
theorem tk_up {K : PySem.W.Frag} {en : En} {W0 W1 : Wd} {E : XD} {X : Cx} (l : W0.Le W1) (t : Takes X (XT K en W0 E)) : Takes X (XT K en W1 E) :=
  t.imp fun cls d σ' H' ⟨C, fs, W', ρ, S', x, r, l2, q⟩ => ⟨C, fs, W', ρ, S', x, r, l.trans l2, q⟩
theorem xn_of {K : PySem.W.Frag} {en : En} {W : Wd} {H : Hp} {σ : L2.St} {ρ : List Sl} {S : Sto} {E : XD} {X : Cx} (t : Takes X (XT K en W E)) (r : Rs K en W σ H ρ S) : Takes X (XN K W H σ (E ρ)) :=
  t.imp fun cls d σ' H' ⟨e, C, fs, W', S', x, h, g, q⟩ => by
    subst e
    exact ⟨C, fs, W', ρ, S', x, r.after h g, g.le, q⟩
theorem XN.back {K : PySem.W.Frag} {W W1 : Wd} {H H1 : Hp} {σ : L2.St} {Ex : XS} {X : Cx} (t : Takes X (XN K W H σ Ex)) (g : Go W H W1 H1) : Takes X (XN K W1 H1 σ Ex) :=
  t.imp fun cls d σ' H' ⟨e, C, fs, W', S', x, h, g2, q⟩ => ⟨e, C, fs, W', S', x, h, g.trans g2 h, q⟩
theorem Nx.back {K : PySem.W.Frag} {en : En} {W W1 : Wd} {H H1 : Hp} {Q : QO} (g : Go W H W1 H1) : ∀ v H', Nx K en W1 H1 Q v H' → Nx K en W H Q v H' := fun v H' ⟨W', o, S', h, g2, r, q⟩ => ⟨W', o, S', h, g.trans g2 h, r, q⟩
theorem NxB.back {K : PySem.W.Frag} {W W1 : Wd} {H H1 : Hp} {Q : Bool → Sto → Prop} (g : Go W H W1 H1) : ∀ v H', NxB K W1 H1 Q v H' → NxB K W H Q v H' := fun v H' ⟨W', S', h, g2, q⟩ => ⟨W', S', h, g.trans g2 h, q⟩
theorem NxA.back {K : PySem.W.Frag} {en : En} {W W1 : Wd} {H H1 : Hp} {Q : List O → Sto → Prop} (g : Go W H W1 H1) : ∀ v H', NxA K en W1 H1 Q v H' → NxA K en W H Q v H' := fun v H' ⟨W', o, S', h, g2, r, q⟩ => ⟨W', o, S', h, g.trans g2 h, r, q⟩
theorem ep_mono {X : Cx} {pins : List (Addr × Obj)} {σ : L2.St} {Q Q' : VK} {u : Value} {s : Shared} (h : ∀ v H, Q v H → Q' v H) : EP X pins σ Q u s → EP X pins σ Q' u s := fun ⟨v, H, I, r, q⟩ => ⟨v, H, I, r, h _ _ q⟩
theorem RepOs.go {K : PySem.W.Frag} {en : En} {W W' : Wd} {H H' : Hp} (g : Go W H W' H') : ∀ {os : List O} {vs : List V}, RepOs K en W H os vs → RepOs K en W' H' os vs
  | _, _, .nil => .nil
  | _, _, .cons h t => .cons (h.go g) (RepOs.go g t)
theorem RepOs.get {K : PySem.W.Frag} {en : En} {W : Wd} {H : Hp} : ∀ {os : List O} {vs : List V}, RepOs K en W H os vs → os.length = vs.length
  | _, _, .nil => rfl
  | _, _, .cons _ t => congrArg (· + 1) (RepOs.get t)

/-! ### operations by their meaning -/
def sem1 (B : Bs) (k : Nat) (f : Value → Sem Value) (x : O) (S : Sto) (Ex : XS) (Q : QO) : Prop :=
  ∀ (X : Cx) (en : En) (W : Wd) (σ : L2.St) (H : Hp), FitsB B k X en → Takes X (XN B.K W H σ Ex) → Ho B.K W H S → ∀ x', RepO B.K en W H x x' →
    ∀ (pins : List (Addr × Obj)) (s : Shared) (v : Value), Inv X pins σ H s → RelV x' v → wpAny (model X.prog X.w) X.A (f v) (EP X pins σ (Nx B.K en W H Q)) X.xe s
def sem2 (B : Bs) (k : Nat) (f : Value → Value → Sem Value) (x y : O) (S : Sto) (Ex : XS) (Q : QO) : Prop :=
  ∀ (X : Cx) (en : En) (W : Wd) (σ : L2.St) (H : Hp), FitsB B k X en → Takes X (XN B.K W H σ Ex) → Ho B.K W H S → ∀ x' y', RepO B.K en W H x x' → RepO B.K en W H y y' →
    ∀ (pins : List (Addr × Obj)) (s : Shared) (v u : Value), Inv X pins σ H s → RelV x' v → RelV y' u → wpAny (model X.prog X.w) X.A (f v u) (EP X pins σ (Nx B.K en W H Q)) X.xe s
/-- f(..): the values by position, those by the names ks -/
def sCall (B : Bs) (k : Nat) (fv : Value) (ks : List Str) (xs zs : List O) (S : Sto) (Ex : XS) (Q : QO) : Prop :=
  ∀ (X : Cx) (en : En) (W : Wd) (σ : L2.St) (H : Hp), FitsB B k X en → Takes X (XN B.K W H σ Ex) → Ho B.K W H S → ∀ xs' zs', RepOs B.K en W H xs xs' → RepOs B.K en W H zs zs' →
    ∀ (pins : List (Addr × Obj)) (s : Shared) (us ws : List Value), Inv X pins σ H s → Vals xs' us → Vals zs' ws → wpAny (model X.prog X.w) X.A (call fv us (ks.zip ws)) (EP X pins σ (Nx B.K en W H Q)) X.xe s
/-- a value's truth -/
def semB (B : Bs) (k : Nat) (x : O) (S : Sto) (Q : Bool → Sto → Prop) : Prop :=
  ∀ (X : Cx) (en : En) (W : Wd) (σ : L2.St) (H : Hp), FitsB B k X en → Ho B.K W H S → ∀ x', RepO B.K en W H x x' →
    ∀ (pins : List (Addr × Obj)) (s : Shared) (v : Value), Inv X pins σ H s → RelV x' v → wpAny (model X.prog X.w) X.A (truthy v) (TP X pins σ (NxB B.K W H Q)) X.xe s
theorem sem2.mono {B : Bs} {k : Nat} {f : Value → Value → Sem Value} {x y : O} {S : Sto} {Ex : XS} {Q Q' : QO} (h : sem2 B k f x y S Ex Q) (m : ∀ o S', Q o S' → Q' o S') : sem2 B k f x y S Ex Q' :=
  fun X en W σ H hf tk ho x' y' rx ry pins s v u I r1 r2 => thn (h X en W σ H hf tk ho x' y' rx ry pins s v u I r1 r2) fun _ _ => ep_mono fun _ _ ⟨W', o, S', h1, h2, h3, q⟩ => ⟨W', o, S', h1, h2, h3, m _ _ q⟩

/-! ### judgements -/
/-- a state in a frame -/
structure At (G : Cf) (X : Cx) (en : En) (W : Wd) (σ : L2.St) (H : Hp) (ρ : List Sl) (S : Sto) (E : XD) (pins : List (Addr × Obj)) (s : Shared) : Prop where
  hf : Fits G X en
  tk : Takes X (XT G.B.K en W E)
  rs : Rs G.B.K en W σ H ρ S
  I : Inv X pins σ H s
structure DE (G : Cf) (e : Expr) (t : RE) : Prop where
  run : ∀ {X en W σ H ρ S E pins s Q}, At G X en W σ H ρ S E pins s → t ρ S E Q → wpAny (model X.prog X.w) X.A (eval e X.env) (EP X pins σ (Nx G.B.K en W H Q)) X.xe s
structure DT (G : Cf) (e : Expr) (t : RT) : Prop where
  run : ∀ {X en W σ H ρ S E pins s Q}, At G X en W σ H ρ S E pins s → t ρ S E Q → wpAny (model X.prog X.w) X.A (isTrue e X.env (eval e X.env)) (TP X pins σ (NxB G.B.K W H Q)) X.xe s
/-- .. whatever its whole is -/
structure DW (G : Cf) (e : Expr) (t : RT) : Prop where
  run : ∀ (whole : Sem Value) {X en W σ H ρ S E pins s Q}, At G X en W σ H ρ S E pins s → t ρ S E Q → wpAny (model X.prog X.w) X.A (isTrue e X.env whole) (TP X pins σ (NxB G.B.K W H Q)) X.xe s
structure DA (G : Cf) (es : List Expr) (t : RA) : Prop where
  run : ∀ (pos : Pos) {X en W σ H ρ S E pins s Q}, At G X en W σ H ρ S E pins s → t ρ S E Q → wpAny (model X.prog X.w) X.A (spliced (backTo pos (starEach es X.env))) (AP X pins σ (NxA G.B.K en W H Q)) X.xe s
structure DK (G : Cf) (kws : List Keyword) (t : RA) : Prop where
  run : ∀ (pos : Pos) {X en W σ H ρ S E pins s Q}, At G X en W σ H ρ S E pins s → t ρ S E Q → wpAny (model X.prog X.w) X.A (evalAll ((backToKw pos (keywordEach kws X.env)).map (·.2))) (AP X pins σ (NxA G.B.K en W H Q)) X.xe s
section
variable {G : Cf} {X : Cx} {en : En} {W W1 : Wd} {σ : L2.St} {H H1 : Hp} {ρ : List Sl} {S S1 : Sto} {E : XD} {pins : List (Addr × Obj)} {s s1 : Shared} {e a b c : Expr} {t ta tb tc : RE}
theorem At.next (a : At G X en W σ H ρ S E pins s) (I : Inv X pins σ H1 s1) (h : Ho G.B.K W1 H1 S1) (g : Go W H W1 H1) : At G X en W1 σ H1 ρ S1 E pins s1 := ⟨a.hf, tk_up g.le a.tk, a.rs.after h g, I⟩
theorem At.xn (a : At G X en W σ H ρ S E pins s) : Takes X (XN G.B.K W H σ (E ρ)) := xn_of a.tk a.rs
/-- a part's reading, the rest behind it -/
theorem DE.at {P : Value → Shared → Prop} {Kq : QO} (h : DE G e t) (z : At G X en W σ H ρ S E pins s) (q : t ρ S E Kq)
    (k : ∀ v s1 x' H1 W1 o S1, At G X en W1 σ H1 ρ S1 E pins s1 → Go W H W1 H1 → RelV x' v → RepO G.B.K en W1 H1 o x' → Kq o S1 → P v s1) : wpAny (model X.prog X.w) X.A (eval e X.env) P X.xe s :=
  thn (h.run z q) fun v s1 ⟨x', H1, I1, r1, W1, o, S1, h1, g1, ro, q1⟩ => k v s1 x' H1 W1 o S1 (z.next I1 h1 g1) g1 r1 ro q1
theorem DT.at {P : Bool → Shared → Prop} {t : RT} {Kq : Bool → Sto → Prop} (h : DT G e t) (z : At G X en W σ H ρ S E pins s) (q : t ρ S E Kq)
    (k : ∀ c s1 H1 W1 S1, At G X en W1 σ H1 ρ S1 E pins s1 → Go W H W1 H1 → Kq c S1 → P c s1) : wpAny (model X.prog X.w) X.A (isTrue e X.env (eval e X.env)) P X.xe s :=
  thn (h.run z q) fun c s1 ⟨H1, I1, W1, S1, h1, g1, q1⟩ => k c s1 H1 W1 S1 (z.next I1 h1 g1) g1 q1
theorem DA.at {es : List Expr} {P : List Value → Shared → Prop} {t : RA} {Kq : List O → Sto → Prop} (h : DA G es t) (pos : Pos) (z : At G X en W σ H ρ S E pins s) (q : t ρ S E Kq)
    (k : ∀ us s1 vs H1 W1 os S1, At G X en W1 σ H1 ρ S1 E pins s1 → Go W H W1 H1 → Vals vs us → RepOs G.B.K en W1 H1 os vs → Kq os S1 → P us s1) : wpAny (model X.prog X.w) X.A (spliced (backTo pos (starEach es X.env))) P X.xe s :=
  thn (h.run pos z q) fun us s1 ⟨vs, H1, I1, r1, W1, o, S1, h1, g1, ro, q1⟩ => k us s1 vs H1 W1 o S1 (z.next I1 h1 g1) g1 r1 ro q1
theorem DK.at {kws : List Keyword} {P : List Value → Shared → Prop} {t : RA} {Kq : List O → Sto → Prop} (h : DK G kws t) (pos : Pos) (z : At G X en W σ H ρ S E pins s) (q : t ρ S E Kq)
    (k : ∀ us s1 vs H1 W1 os S1, At G X en W1 σ H1 ρ S1 E pins s1 → Go W H W1 H1 → Vals vs us → RepOs G.B.K en W1 H1 os vs → Kq os S1 → P us s1) : wpAny (model X.prog X.w) X.A (evalAll ((backToKw pos (keywordEach kws X.env)).map (·.2))) P X.xe s :=
  thn (h.run pos z q) fun us s1 ⟨vs, H1, I1, r1, W1, o, S1, h1, g1, ro, q1⟩ => k us s1 vs H1 W1 o S1 (z.next I1 h1 g1) g1 r1 ro q1
theorem At.nx {v : V} {o : O} {Q : QO} {u : Value} (z : At G X en W σ H ρ S E pins s) (r : RelV v u) (ro : RepO G.B.K en W H o v) (q : Q o S) : EP X pins σ (Nx G.B.K en W H Q) u s := ⟨v, H, z.I, r, W, o, S, z.rs.ho, .refl, ro, q⟩
theorem At.op1 {f : Value → Sem Value} {v : V} {o : O} {Q : QO} {u : Value} (z : At G X en W σ H ρ S E pins s) (r : RelV v u) (ro : RepO G.B.K en W H o v) (q : sem1 G.B G.k f o S (E ρ) Q) : wpAny (model X.prog X.w) X.A (f u) (EP X pins σ (Nx G.B.K en W H Q)) X.xe s :=
  q X en W σ H z.hf.b z.xn z.rs.ho v ro pins s u z.I r
theorem At.op2 {f : Value → Value → Sem Value} {v v2 : V} {o o2 : O} {Q : QO} {u u2 : Value} (z : At G X en W σ H ρ S E pins s) (r : RelV v u) (ro : RepO G.B.K en W H o v) (r2 : RelV v2 u2) (ro2 : RepO G.B.K en W H o2 v2) (q : sem2 G.B G.k f o o2 S (E ρ) Q) :
    wpAny (model X.prog X.w) X.A (f u u2) (EP X pins σ (Nx G.B.K en W H Q)) X.xe s :=
  q X en W σ H z.hf.b z.xn z.rs.ho v v2 ro ro2 pins s u u2 z.I r r2
theorem ep_back {Q : QO} {u : Value} (g : Go W H W1 H1) : EP X pins σ (Nx G.B.K en W1 H1 Q) u s1 → EP X pins σ (Nx G.B.K en W H Q) u s1 := ep_mono (Nx.back g)
theorem tp_back {Q : Bool → Sto → Prop} {c : Bool} (g : Go W H W1 H1) : TP X pins σ (NxB G.B.K W1 H1 Q) c s1 → TP X pins σ (NxB G.B.K W H Q) c s1 := fun ⟨H', I, q⟩ => ⟨H', I, NxB.back g _ _ q⟩

/-! ### names, constants -/
def dVar (i : Nat) : RE := fun ρ S _ Q => (∃ d, ρ[i]? = some (.sh d) ∧ Q (.v d) S) ∨ (∃ xs, ρ[i]? = some (.ol xs) ∧ Q (.b xs) S) ∨ (∃ xs, ρ[i]? = some (.od xs) ∧ Q (.bd xs) S) ∨ (∃ C fs, ρ[i]? = some (.slf C fs) ∧ Q (.s C fs) S)
abbrev dC (d : D) : RE := fun _ S _ Q => Q (.v d) S
theorem de_var {i : Nat} {x : Str} {pos : Pos} (hN : G.N[i]? = some x) (hv : Vis G.sc x) (hd : (x == ("__debug__" : Str)) = false := by decide) (hcd : (x == ("__classdict__" : Str)) = false := by decide) : DE G (.Name x pos) (dVar i) := by
  refine ⟨fun {X en W σ H ρ S E pins s Q} z q => ?_⟩
  have p := pe_var (X := X) (i := i) (x := x) (pos := pos) (by rw [z.hf.N]; exact hN) (by rw [z.hf.sc]; exact hv) hd hcd
  rcases q with ⟨d, e, q⟩ | ⟨d, e, q⟩ | ⟨d, e, q⟩ | ⟨C, fs, e, q⟩
  · obtain ⟨v, e1, r⟩ := z.rs.sl i _ e
    exact p.run pins s σ H _ z.I ⟨v, e1, W, .v d, S, z.rs.ho, .refl, r, q⟩
  · obtain ⟨a, vs, e1, h, r, w⟩ := z.rs.sl i _ e
    exact p.run pins s σ H _ z.I ⟨_, e1, W, .b d, S, z.rs.ho, .refl, ⟨a, vs, rfl, h, r, w⟩, q⟩
  · obtain ⟨a, vs, e1, h, r, w⟩ := z.rs.sl i _ e
    exact p.run pins s σ H _ z.I ⟨_, e1, W, .bd d, S, z.rs.ho, .refl, ⟨a, vs, rfl, h, r, w⟩, q⟩
  · obtain ⟨dx, vs, e1, h, r, w⟩ := z.rs.sl i _ e
    exact p.run pins s σ H _ z.I ⟨_, e1, W, .s C fs, S, z.rs.ho, .refl, ⟨dx, vs, rfl, h, r, w⟩, q⟩
/-- what always gives one value -/
theorem de_of {e : Expr} {v : V} {d : D} (h : ∀ X : Cx, X.K = G.B.K → X.mg = G.B.mg → X.env.scope = G.sc → PE X e (tC v)) (r : ∀ W, Rep G.B.K W d v) : DE G e (dC d) := by
  refine ⟨fun {X en W σ H ρ S E pins s Q} z q => ?_⟩
  exact (h X z.hf.b.K z.hf.b.mg z.hf.sc).run pins s σ H _ z.I ⟨W, .v d, S, z.rs.ho, .refl, r W, q⟩
theorem de_int {i j pos} : DE G (.Constant (.int i) j pos) (dC (.int i)) := de_of (fun _ _ _ _ => pe_int) fun _ => .int i
theorem de_bl {b j pos} : DE G (.Constant (.bool b) j pos) (dC (.bl b)) := de_of (fun _ _ _ _ => pe_bl) fun _ => .bl b
theorem de_str {x j pos} : DE G (.Constant (.str x) j pos) (dC (.str x)) := de_of (fun _ _ _ _ => pe_str) fun _ => .str x
abbrev Glb (G : Cf) (x : Str) : Prop := G.sc.names.lookup x = some .globalImplicit
theorem gl_of {G : Cf} {X : Cx} {x : Str} (h : X.env.scope = G.sc) (g : Glb G x) : Gl X x := by
  show X.env.scope.names.lookup x = some .globalImplicit
  rw [h]
  exact g
theorem de_glob {x : Str} {v : V} {d : D} {u : Value} {pos : Pos} (hg : Glb G x) (hm : G.B.mg x = some u) (r : RelV v u) (rd : ∀ W, Rep G.B.K W d v) (hd : (x == ("__debug__" : Str)) = false := by decide) : DE G (.Name x pos) (dC d) :=
  de_of (fun X e1 e2 e3 => pe_glob (gl_of e3 hg) (by rw [e2]; exact hm) r hd) rd
theorem de_gint {x : Str} {i : Int} {pos : Pos} (hg : Glb G x) (hm : ∃ t, G.B.mg x = some (.int i t)) (hd : (x == ("__debug__" : Str)) = false := by decide) : DE G (.Name x pos) (dC (.int i)) := by
  obtain ⟨t, hm⟩ := hm
  exact de_glob (v := .int i) hg hm ⟨t, rfl⟩ (fun _ => .int i) hd
theorem de_cls {x : Str} {pos : Pos} (hg : Glb G x) (hm : G.B.mg x = some (.ref (He.ga G.B.K x))) (hd : (x == ("__debug__" : Str)) = false := by decide) : DE G (.Name x pos) (dC (.cls x)) := de_glob (v := .ref (He.ga G.B.K x)) hg hm rfl (fun _ => .cls x) hd
theorem de_ty {x : Str} {n : String} {pos : Pos} (hg : Glb G x) (hm : G.B.mg x = none) (hv : bootBuiltins x = some (.type n)) (hn : x ≠ "__name__" := by decide) (hd : (x == ("__debug__" : Str)) = false := by decide) : DE G (.Name x pos) (dC (.ty n)) :=
  de_of (fun X e1 e2 e3 => pe_bltn (v := .ty n) (gl_of e3 hg) (by rw [e2]; exact hm) hv rfl hn hd) fun _ => .ty n

/-! ### operators -/
variable {pos : Pos}
abbrev dBin (B : Bs) (k : Nat) (op : Operator) (ta tb : RE) : RE := fun ρ S E Q => ta ρ S E fun x S1 => tb ρ S1 E fun y S2 => sem2 B k (binaryOp op) x y S2 (E ρ) Q
theorem de_bin {op : Operator} (ha : DE G a ta) (hb : DE G b tb) : DE G (.BinOp a op b pos) (dBin G.B G.k op ta tb) := by
  refine ⟨fun {X en W σ H ρ S E pins s Q} z q => wpAny_BinOp (ha.at z q fun v s1 x' H1 W1 o S1 z1 g1 r1 ro q1 => hb.at z1 q1 fun u s2 y' H2 W2 o2 S2 z2 g2 r2 ro2 q2 => ?_)⟩
  exact thn (z2.op2 r1 (ro.go g2) r2 ro2 q2) fun _ _ => ep_back (g1.trans g2 z2.rs.ho)
abbrev dCmp (B : Bs) (k : Nat) (op : CmpOp) (ta tb : RE) : RE := fun ρ S E Q => ta ρ S E fun x S1 => tb ρ S1 E fun y S2 => sem2 B k (compareOp op) x y S2 (E ρ) Q
theorem de_cmp {op : CmpOp} (ha : DE G a ta) (hb : DE G b tb) (h1 : behindInMarks op b = false := by first | exact nobehind _ (by decide) (by decide) | rfl) : DE G (.Compare a [op] [b] pos) (dCmp G.B G.k op ta tb) := by
  refine ⟨fun {X en W σ H ρ S E pins s Q} z q => wpAny_Compare1 (ha.at z q fun v s1 x' H1 W1 o S1 z1 g1 r1 ro q1 => hb.at z1 q1 fun u s2 y' H2 W2 o2 S2 z2 g2 r2 ro2 q2 => ?_) h1⟩
  exact thn (z2.op2 r1 (ro.go g2) r2 ro2 q2) fun _ _ => ep_back (g1.trans g2 z2.rs.ho)
/-- a value as a test -/
abbrev dTest (B : Bs) (k : Nat) (t : RE) : RT := fun ρ S E Q => t ρ S E fun x S1 => semB B k x S1 Q
theorem semB.at {v : V} {o : O} {Q : Bool → Sto → Prop} {u : Value} (z : At G X en W σ H ρ S E pins s) (r : RelV v u) (ro : RepO G.B.K en W H o v) (q : semB G.B G.k o S Q) : wpAny (model X.prog X.w) X.A (truthy u) (TP X pins σ (NxB G.B.K W H Q)) X.xe s :=
  q X en W σ H z.hf.b z.rs.ho v ro pins s u z.I r
theorem dt_cmp {op : CmpOp} (ha : DE G a ta) (hb : DE G b tb) (h1 : behindInMarks op b = false := by first | exact nobehind _ (by decide) (by decide) | rfl) : DT G (.Compare a [op] [b] pos) (dTest G.B G.k (dCmp G.B G.k op ta tb)) := by
  refine ⟨fun {X en W σ H ρ S E pins s Q} z q => wpAny_isTrue_Compare1 (ha.at z q fun v s1 x' H1 W1 o S1 z1 g1 r1 ro q1 => hb.at z1 q1 fun u s2 y' H2 W2 o2 S2 z2 g2 r2 ro2 q2 => ?_) h1⟩
  refine thn (z2.op2 r1 (ro.go g2) r2 ro2 q2) fun c s3 ⟨v', H3, I3, r3, W3, o3, S3, h3, g3, ro3, q3⟩ => ?_
  exact thn (semB.at (z2.next I3 h3 g3) r3 ro3 q3) fun _ _ => tp_back ((g1.trans g2 z2.rs.ho).trans g3 h3)
theorem dt_val {e : Expr} {t : RE} (h : DE G e t) (he : ∀ (env : Env) whole, isTrue e env whole = (do let v ← whole; standAt e.pos; holding [v] (truthy v)) := by intro _ _; rfl) : DT G e (dTest G.B G.k t) := by
  refine ⟨fun {X en W σ H ρ S E pins s Q} z q => isTrue_plain (h.at z q fun v s1 x' H1 W1 o S1 z1 g1 r1 ro q1 => ?_) (he _ _)⟩
  exact thn (semB.at z1 r1 ro q1) fun _ _ => tp_back g1
variable {tA tB : RT} {rest : List Expr}
theorem DW.dt {t : RT} (h : DW G e t) : DT G e t := ⟨fun z q => h.run _ z q⟩
abbrev dAnd (t u : RT) : RT := fun ρ S E Q => t ρ S E fun c S1 => if c = true then u ρ S1 E Q else Q false S1
abbrev dOr (t u : RT) : RT := fun ρ S E Q => t ρ S E fun c S1 => if c = true then Q true S1 else u ρ S1 E Q
abbrev dNot (t : RT) : RT := fun ρ S E Q => t ρ S E fun c S1 => Q (!c) S1
theorem dw_and1 (ha : DT G a tA) : DW G (.BoolOp .And [a] pos) tA := by
  refine ⟨fun wh {X en W σ H ρ S E pins s Q} z q => isTrue_and (thn (ha.run z q) fun c s1 e => ?_)⟩
  cases c with
  | true => exact isTrue_and_nil e
  | false => exact e
theorem dw_or1 (ha : DT G a tA) : DW G (.BoolOp .Or [a] pos) tA := by
  refine ⟨fun wh {X en W σ H ρ S E pins s Q} z q => isTrue_or (thn (ha.run z q) fun c s1 e => ?_)⟩
  cases c with
  | true => exact e
  | false => exact isTrue_or_nil e
theorem dw_and (ha : DT G a tA) (hb : DW G (.BoolOp .And (b :: rest) pos) tB) : DW G (.BoolOp .And (a :: b :: rest) pos) (dAnd tA tB) := by
  refine ⟨fun wh {X en W σ H ρ S E pins s Q} z q => isTrue_and (ha.at z q fun c s1 H1 W1 S1 z1 g1 q1 => ?_)⟩
  cases c with
  | true => exact thn (hb.run wh z1 q1) fun _ _ => tp_back g1
  | false => exact ⟨H1, z1.I, W1, S1, z1.rs.ho, g1, q1⟩
theorem dw_or (ha : DT G a tA) (hb : DW G (.BoolOp .Or (b :: rest) pos) tB) : DW G (.BoolOp .Or (a :: b :: rest) pos) (dOr tA tB) := by
  refine ⟨fun wh {X en W σ H ρ S E pins s Q} z q => isTrue_or (ha.at z q fun c s1 H1 W1 S1 z1 g1 q1 => ?_)⟩
  cases c with
  | true => exact ⟨H1, z1.I, W1, S1, z1.rs.ho, g1, q1⟩
  | false => exact thn (hb.run wh z1 q1) fun _ _ => tp_back g1
theorem dt_not (ha : DT G a tA) : DT G (.UnaryOp .Not a pos) (dNot tA) :=
  ⟨fun {X en W σ H ρ S E pins s Q} z q => isTrue_not (thn (ha.run (Q := fun c S1 => Q (!c) S1) z q) fun c s1 ⟨H1, I1, q1⟩ => ⟨H1, I1, q1⟩)⟩
/-- and, or, not as values: what decides is handed back -/
abbrev dAndV (B : Bs) (k : Nat) (ta tb : RE) : RE := fun ρ S E Q => ta ρ S E fun x S1 => semB B k x S1 fun c S2 => if c = true then tb ρ S2 E Q else Q x S2
theorem de_one {op} {t : RE} (h : DE G a t) : DE G (.BoolOp op [a] pos) t := ⟨fun z q => BoolOp_one (h.run z q)⟩
theorem de_and (ha : DE G a ta) (hb : DE G (.BoolOp .And (b :: rest) pos) tb) : DE G (.BoolOp .And (a :: b :: rest) pos) (dAndV G.B G.k ta tb) := by
  refine ⟨fun {X en W σ H ρ S E pins s Q} z q => BoolOp_and (ha.at z q fun v s1 x' H1 W1 o S1 z1 g1 r1 ro q1 => thn (semB.at z1 r1 ro q1) fun c s2 ⟨H2, I2, W2, S2, h2, g2, q2⟩ => ?_)⟩
  have z2 := z1.next I2 h2 g2
  cases c with
  | true => exact thn (hb.run z2 q2) fun _ _ => ep_back (g1.trans g2 h2)
  | false => exact ⟨x', H2, I2, r1, W2, o, S2, h2, g1.trans g2 h2, ro.go g2, q2⟩
abbrev dNotV (B : Bs) (k : Nat) (ta : RE) : RE := fun ρ S E Q => ta ρ S E fun x S1 => semB B k x S1 fun c S2 => Q (.v (.bl (!c))) S2
theorem de_not (ha : DE G a ta) : DE G (.UnaryOp .Not a pos) (dNotV G.B G.k ta) := by
  refine ⟨fun {X en W σ H ρ S E pins s Q} z q => UnaryOp_ (ha.at z q fun v s1 x' H1 W1 o S1 z1 g1 r1 ro q1 => not_of (thn (semB.at z1 r1 ro q1) fun c s2 ⟨H2, I2, W2, S2, h2, g2, q2⟩ => ?_))⟩
  exact ⟨.bl (!c), H2, I2, rfl, W2, .v (.bl (!c)), S2, h2, g1.trans g2 h2, .bl _, q2⟩
abbrev dIf (t : RT) (ta tb : RE) : RE := fun ρ S E Q => t ρ S E fun c S1 => if c = true then ta ρ S1 E Q else tb ρ S1 E Q
theorem de_if {c : Expr} (hc : DT G c tA) (ha : DE G a ta) (hb : DE G b tb) : DE G (.IfExp c a b pos) (dIf tA ta tb) := by
  refine ⟨fun {X en W σ H ρ S E pins s Q} z q => wpAny_IfExp (hc.at z q fun c s1 H1 W1 S1 z1 g1 q1 => ?_)⟩
  cases c with
  | true => exact thn (ha.run z1 q1) fun _ _ => ep_back g1
  | false => exact thn (hb.run z1 q1) fun _ _ => ep_back g1

end
end Dt

set_option Elab.async false
set_option linter.all false
set_option maxRecDepth 100000
set_option maxHeartbeats 4000000
/-! DatC: new objects, displays, calls, methods, subscripts, slices, attributes -/
namespace Dt
open PySem PySem.Spec PyProof.Rows L2 My
/-! ### new objects -/
section
variable {K : PySem.W.Frag} {en : En} {W : Wd} {H : Hp} {S : Sto} {p : Addr} {o : HO}
/-- a new object that never changes -/
def Wd.frz (W : Wd) (p : Addr) (o : HO) : Wd := ⟨upd W.F p o, W.m, W.n⟩
theorem Wd.frz_le (W : Wd) (n : W.F p = none) : W.Le (W.frz p o) := ⟨fun a u e => by
  show upd W.F p o a = some u
  rw [upd_ne (ne_of_none e n)]
  exact e, Nat.le_refl _, fun _ _ => rfl⟩
theorem Ho.nF (h : Ho K W H S) (n : H p = none) : W.F p = none := by
  cases q : W.F p with
  | none => rfl
  | some u =>
    rw [h.fh p u q] at n
    cases n
theorem RelC.upd {a : Addr} {c : Cell} (l : ∀ d v, Rep K W d v → Rep K W d v) (hp : p ≠ a) (h : RelC K W H a c) : RelC K W (upd H p o) a c := by
  cases c with
  | no => trivial
  | lst xs => exact let ⟨vs, e, r⟩ := h; ⟨vs, by rw [upd_ne hp.symm]; exact e, r⟩
  | dct xs => exact let ⟨vs, e, r⟩ := h; ⟨vs, by rw [upd_ne hp.symm]; exact e, r⟩
  | ins C fs => exact let ⟨dx, vs, e, r⟩ := h; ⟨dx, vs, by rw [upd_ne hp.symm]; exact e, r⟩
  | tbl P q => exact let ⟨e0, ps, e, r⟩ := h; ⟨e0, ps, by rw [upd_ne hp.symm]; exact e, r⟩
  | lck u xs => exact let ⟨e, r⟩ := h; ⟨by rw [upd_ne hp.symm]; exact e, r⟩
theorem RelC.le {W' : Wd} {H' : Hp} {a : Addr} {c : Cell} (l : W.Le W') (k : ∀ o, H a = some o → H' a = some o) (h : RelC K W H a c) : RelC K W' H' a c := by
  cases c with
  | no => trivial
  | lst xs => exact let ⟨vs, e, r⟩ := h; ⟨vs, k _ e, r.le l⟩
  | dct xs => exact let ⟨vs, e, r⟩ := h; ⟨vs, k _ e, r.le l⟩
  | ins C fs => exact let ⟨dx, vs, e, r⟩ := h; ⟨dx, vs, k _ e, r.le l⟩
  | tbl P q => exact let ⟨e0, ps, e, r1, r⟩ := h; ⟨e0, ps, k _ e, r1, fun pos cv z => let ⟨c, z1, z2⟩ := r pos cv z; ⟨c, z1, l.f _ _ z2⟩⟩
  | lck u xs => exact let ⟨e, od, vs, e2, r⟩ := h; ⟨k _ e, od, vs, e2, r.le l⟩
theorem upd_keep {a : Addr} {u : HO} (n : H p = none) (e : H a = some u) : upd H p o a = some u := by
  rw [upd_ne (ne_of_none e n)]
  exact e
theorem Ho.frz (h : Ho K W H S) (n : H p = none) : Ho K (W.frz p o) (upd H p o) S where
  n := h.n
  fh := fun a u e => by
    by_cases z : a = p
    · subst z
      rw [show (W.frz a o).F a = some o from upd_same] at e
      rw [upd_same]
      exact e
    · rw [show (W.frz p o).F a = W.F a from upd_ne z] at e
      rw [upd_ne z]
      exact h.fh a u e
  inj := h.inj
  mF := fun i hi => by
    have q : W.m i ≠ p := fun c => by
      obtain ⟨u, e⟩ := h.there i hi
      rw [c, n] at e
      cases e
    show upd W.F p o (W.m i) = none
    rw [upd_ne q]
    exact h.mF i hi
  there := fun i hi => let ⟨u, e⟩ := h.there i hi; ⟨u, upd_keep n e⟩
  cel := fun i c e => (h.cel i c e).le (W.frz_le (h.nF n)) fun u q => upd_keep n q
theorem Go.frz (h : Ho K W H S) (n : H p = none) : Go W H (W.frz p o) (upd H p o) where
  le := W.frz_le (h.nF n)
  fn := fun a u e => by
    by_cases z : a = p
    · subst z
      exact .inr n
    · rw [show (W.frz p o).F a = W.F a from upd_ne z] at e
      exact .inl e
  kp := fun a u e _ => upd_keep n e
  mn := fun i h1 h2 => absurd h2 (Nat.not_lt.mpr h1)
/-- a new object of the store -/
def Wd.cell (W : Wd) (p : Addr) : Wd := ⟨W.F, fun i => if i = W.n then p else W.m i, W.n + 1⟩
theorem Wd.cell_at {i : Nat} (h : i < W.n) : (W.cell p).m i = W.m i := if_neg (Nat.ne_of_lt h)
theorem Wd.cell_new : (W.cell p).m W.n = p := if_pos rfl
theorem Wd.cell_le : W.Le (W.cell p) := ⟨fun _ _ e => e, Nat.le_succ _, fun i h => Wd.cell_at h⟩
theorem Ho.cell {c : Cell} (h : Ho K W H S) (n : H p = none) (r : RelC K (W.cell p) (upd H p o) p c) : Ho K (W.cell p) (upd H p o) (S ++ [c]) where
  n := by
    show W.n + 1 = _
    rw [h.n, List.length_append] <;> rfl
  fh := fun a u e => upd_keep n (h.fh a u e)
  inj := fun i j hi hj e => by
    have hi : i < W.n + 1 := hi
    have hj : j < W.n + 1 := hj
    have ne : ∀ i, i < W.n → W.m i ≠ p := fun i hi c => by
      obtain ⟨u, e⟩ := h.there i hi
      rw [c, n] at e
      cases e
    by_cases z1 : i = W.n
    · subst z1
      by_cases z2 : j = W.n
      · exact z2.symm
      · rw [Wd.cell_new, Wd.cell_at (by omega)] at e
        exact absurd e.symm (ne j (by omega))
    · by_cases z2 : j = W.n
      · subst z2
        rw [Wd.cell_new, Wd.cell_at (by omega)] at e
        exact absurd e (ne i (by omega))
      · rw [Wd.cell_at (by omega), Wd.cell_at (by omega)] at e
        exact h.inj i j (by omega) (by omega) e
  mF := fun i hi => by
    have hi : i < W.n + 1 := hi
    by_cases z : i = W.n
    · subst z
      rw [Wd.cell_new]
      exact h.nF n
    · rw [Wd.cell_at (by omega)]
      exact h.mF i (by omega)
  there := fun i hi => by
    have hi : i < W.n + 1 := hi
    by_cases z : i = W.n
    · subst z
      rw [Wd.cell_new]
      exact ⟨o, upd_same⟩
    · rw [Wd.cell_at (by omega)]
      exact let ⟨u, e⟩ := h.there i (by omega); ⟨u, upd_keep n e⟩
  cel := fun i d e => by
    by_cases z : i < S.length
    · rw [List.getElem?_append_left z] at e
      rw [Wd.cell_at (by rw [h.n]; exact z)]
      exact (h.cel i d e).le Wd.cell_le fun u q => upd_keep n q
    · rw [List.getElem?_append_right (by omega)] at e
      have z2 : i = S.length := by
        have := (List.getElem?_eq_some_iff.mp e).1
        simp only [List.length_cons, List.length_nil] at this
        omega
      subst z2
      rw [Nat.sub_self, List.getElem?_cons_zero] at e
      cases e
      rw [← h.n, Wd.cell_new]
      exact r
theorem Go.cell (h : Ho K W H S) (n : H p = none) : Go W H (W.cell p) (upd H p o) where
  le := Wd.cell_le
  fn := fun a u e => .inl e
  kp := fun a u e _ => upd_keep n e
  mn := fun i h1 h2 => by
    have h2 : i < W.n + 1 := h2
    have z : i = W.n := by omega
    subst z
    rw [Wd.cell_new]
    exact n
/-- an object of the store changes -/
theorem Ho.put {i : Nat} {c : Cell} (h : Ho K W H S) (hi : i < W.n) (r : RelC K W (L2.upd H (W.m i) o) (W.m i) c) : Ho K W (L2.upd H (W.m i) o) (S.set i c) where
  n := by rw [List.length_set]; exact h.n
  fh := fun a u e => by
    have q : a ≠ W.m i := fun z => by
      rw [z, h.mF i hi] at e
      cases e
    rw [upd_ne q]
    exact h.fh a u e
  inj := h.inj
  mF := h.mF
  there := fun j hj => by
    by_cases z : W.m j = W.m i
    · rw [z]
      exact ⟨o, upd_same⟩
    · rw [upd_ne z]
      exact h.there j hj
  cel := fun j d e => by
    by_cases z : j = i
    · subst z
      rw [List.getElem?_set_self (by rw [← h.n]; exact hi)] at e
      cases e
      exact r
    · rw [List.getElem?_set_ne (Ne.symm z)] at e
      have hj : j < W.n := by
        rw [h.n]
        exact (List.getElem?_eq_some_iff.mp e).1
      have q : W.m j ≠ W.m i := fun c => z (h.inj j i hj hi c)
      exact (h.cel j d e).le .refl fun u y => by
        rw [upd_ne q]
        exact y
theorem Go.put {i : Nat} (hi : i < W.n) : Go W H W (L2.upd H (W.m i) o) where
  le := .refl
  fn := fun a u e => .inl e
  kp := fun a u e n => by
    rw [upd_ne (fun z => n i hi z.symm)]
    exact e
  mn := fun i h1 h2 => absurd h2 (Nat.not_lt.mpr h1)
end

/-! ### argument lists, displays -/
/-- values all of which may be handed on -/
def Sol (os : List O) (ds : List D) : Prop := os = ds.map O.v
theorem Sol.rep {K : PySem.W.Frag} {en : En} {W : Wd} {H : Hp} : ∀ {ds : List D} {vs : List V}, RepOs K en W H (ds.map O.v) vs → Reps K W ds vs
  | [], _, .nil => .nil
  | _ :: ds, _, .cons h t => .cons h (Sol.rep t)
theorem Reps.os {K : PySem.W.Frag} {en : En} {W : Wd} {H : Hp} : ∀ {ds : List D} {vs : List V}, Reps K W ds vs → RepOs K en W H (ds.map O.v) vs
  | _, _, .nil => .nil
  | _, _, .cons h t => .cons h (Reps.os t)
section
variable {G : Cf} {X : Cx} {en : En} {W W1 : Wd} {σ : L2.St} {H H1 : Hp} {ρ : List Sl} {S S1 : Sto} {E : XD} {pins : List (Addr × Obj)} {s s1 : Shared} {e a b c o : Expr} {es : List Expr} {kws : List Keyword} {t ta tb tc te to : RE} {tA tK : RA} {pos p apos : Pos} {x m : Str}
abbrev aNil : RA := fun _ S _ Q => Q [] S
abbrev aCons (ta : RE) (tr : RA) : RA := fun ρ S E Q => ta ρ S E fun x S1 => tr ρ S1 E fun xs S2 => Q (x :: xs) S2
theorem da_nil : DA G [] aNil := ⟨fun pos {X en W σ H ρ S E pins s Q} z q => Calls.spliced_nil ⟨[], H, z.I, .nil, W, [], S, z.rs.ho, .refl, .nil, q⟩⟩
theorem da_cons (ha : DE G e te) (hr : DA G es tA) (hs : ∀ env : Env, starEach (e :: es) env = (false, eval e env) :: starEach es env := by intro _; rfl) : DA G (e :: es) (aCons te tA) := by
  refine ⟨fun pos {X en W σ H ρ S E pins s Q} z q => ?_⟩
  rw [hs]
  show wpAny _ _ (spliced ((false, eval e X.env) :: backTo pos (starEach es X.env))) _ _ s
  refine Calls.spliced_cons (ha.at z q fun u s1 x' H1 W1 o S1 z1 g1 r1 ro q1 => ?_)
  refine hr.at pos z1 q1 fun us s2 vs H2 W2 os S2 z2 g2 r2 ro2 q2 => ?_
  exact ⟨x' :: vs, H2, z2.I, .cons r1 r2, W2, o :: os, S2, z2.rs.ho, g1.trans g2 z2.rs.ho, .cons (ro.go g2) ro2, q2⟩
theorem dk_nil : DK G [] aNil := ⟨fun pos {X en W σ H ρ S E pins s Q} z q => wpAny_evalAll_nil ⟨[], H, z.I, .nil, W, [], S, z.rs.ho, .refl, .nil, q⟩⟩
theorem dk_cons {nm : Option Str} {kpos : Pos} (ha : DE G e te) (hr : DK G kws tK) : DK G (⟨nm, e, kpos⟩ :: kws) (aCons te tK) := by
  refine ⟨fun pos {X en W σ H ρ S E pins s Q} z q => ?_⟩
  show wpAny _ _ (evalAll ((do let v ← eval e X.env; standAt pos; pure v) :: (backToKw pos (keywordEach kws X.env)).map (·.2))) _ _ s
  refine wpAny_evalAll_cons (wpAny_bind (ha.at z q fun u s1 x' H1 W1 o S1 z1 g1 r1 ro q1 => wpAny_bind (wpAny_standAt (wpAny_pure ?_))))
  refine hr.at pos z1 q1 fun us s2 vs H2 W2 os S2 z2 g2 r2 ro2 q2 => ?_
  exact ⟨x' :: vs, H2, z2.I, .cons r1 r2, W2, o :: os, S2, z2.rs.ho, g1.trans g2 z2.rs.ho, .cons (ro.go g2) ro2, q2⟩
def sz (n : Nat) : Prop := n ≤ sizeLine
/-- (a, b), [a, b]: of values; a list may stand in the store -/
abbrev dTup (tA : RA) : RE := fun ρ S E Q => tA ρ S E fun os S1 => ∃ ds, Sol os ds ∧ sz ds.length ∧ Q (.v (.tup ds)) S1
theorem de_tup {x1} (h : DA G es tA) : DE G (.Tuple es x1 pos) (dTup tA) := by
  refine ⟨fun {X en W σ H ρ S E pins s Q} z q => ?_⟩
  refine wpAny_Tuple_spliced (h.at pos z q fun us s1 vs H1 W1 os S1 z1 g1 r1 ro ⟨ds, so, hz, q1⟩ => ?_)
  subst so
  have hr := Sol.rep ro
  have hl : vs.length ≤ sizeLine := by rw [hr.len]; exact hz
  refine ⟨by rw [← r1.length]; exact hl, ?_⟩
  have hf : H1 s1.heap.objs.size = none := z1.I.hok.fresh (Nat.le_refl _)
  refine ⟨.ref s1.heap.objs.size, upd H1 s1.heap.objs.size (.tup vs), z1.I.laid (t' := s1.toks) (fun b u e => Heap.get?_push_of_some _ e) (Nat.le_refl _) ?_, rfl, ?_⟩
  · exact ⟨hl, us, r1, ⟨_, Heap.get?_push_size _ rfl, rfl, _, rfl⟩⟩
  · exact ⟨_, .v (.tup ds), S1, z1.rs.ho.frz hf, g1.trans (Go.frz z1.rs.ho hf) (z1.rs.ho.frz hf), .tup (SqT.of upd_same) (hr.le (W1.frz_le (z1.rs.ho.nF hf))), q1⟩
/-! ### calls -/
/-- a call of an own def, of an own class, wherever no error is handled -/
def sFun (B : Bs) (k : Nat) (fv : Value) (ks : List Str) (ds zs : List D) (S : Sto) (Ex : XS) (Q : QO) : Prop :=
  ∀ (A : Around) (outer : List Env) (s : Shared) (W : Wd) (H : Hp) (en : En) (σ : L2.St) (vs ws : List V) (us us' : List Value), My.RG k A → Env0 B.P B.w B.K B.mg B.base A outer s H → B.K.In s.heap → Ho B.K W H S → Reps B.K W ds vs → Reps B.K W zs ws → Vals vs us → Vals ws us' →
    codeAny (model B.P B.w) A (.call fv ⟨us, ks.zip us'⟩) (CR (L2.CX B.P B.w) outer B.P B.w H s (Nx B.K en W H Q) (WE (XN B.K W H σ Ex) σ)) s
theorem fits_env {B : Bs} {k : Nat} (ft : FitsB B k X en) (I : Inv X pins σ H s) : Env0 B.P B.w B.K B.mg B.base X.A X.stack s H ∧ B.K.In s.heap := by
  have e := I.env0
  rw [ft.P, ft.w, ft.K, ft.mg, ft.base] at e
  exact ⟨e, by rw [← ft.K]; exact I.kIn⟩
theorem sFun.run {B : Bs} {k : Nat} {fv : Value} {ks : List Str} {ds zs : List D} {Ex : XS} {Q : QO} (h : sFun B k fv ks ds zs S Ex Q) (hot : B.hot = false) (ft : FitsB B k X en) (tk : Takes X (XN B.K W H σ Ex)) (ho : Ho B.K W H S) {vs ws : List V} {us us' : List Value} (rd : Reps B.K W ds vs) (rz : Reps B.K W zs ws) (I : Inv X pins σ H s) (rv : Vals vs us) (rw' : Vals ws us') :
    wpAny (model X.prog X.w) X.A (call fv us (ks.zip us')) (EP X pins σ (Nx B.K en W H Q)) X.xe s := by
  obtain ⟨e0, KX⟩ := fits_env ft I
  have key := h X.A X.stack s W H en σ vs ws us us' (ft.rg hot) e0 KX ho rd rz rv rw'
  rw [← ft.P, ← ft.w] at key
  refine wpAny_call (codeAny_mono key fun y s' hq' => ?_)
  match y, hq' with
  | .error er, hq' => exact passAt tk σ pins H s er s' I hq'
  | .ok (.ret u), hq' => exact I.after hq'
theorem At.fn {fv : Value} {ks : List Str} {ds zs : List D} {vs ws : List V} {us us' : List Value} {Q : QO} (hc : G.B.hot = false) (z : At G X en W σ H ρ S E pins s) (q : sFun G.B G.k fv ks ds zs S (E ρ) Q) (rd : RepOs G.B.K en W H (ds.map O.v) vs) (rz : RepOs G.B.K en W H (zs.map O.v) ws) (rv : Vals vs us) (rw' : Vals ws us') :
    wpAny (model X.prog X.w) X.A (call fv us (ks.zip us')) (EP X pins σ (Nx G.B.K en W H Q)) X.xe s := q.run hc z.hf.b z.xn z.rs.ho (Sol.rep rd) (Sol.rep rz) z.I rv rw'
/-- f(..), f a def or a class of the module -/
abbrev dCallF (B : Bs) (k : Nat) (fv : Value) (ks : List Str) (tA tK : RA) : RE := fun ρ S E Q => tA ρ S E fun xs S1 => ∃ ds, Sol xs ds ∧ tK ρ S1 E fun zs S2 => ∃ es, Sol zs es ∧ sFun B k fv ks ds es S2 (E ρ) Q
/-- .. of a built-in -/
abbrev dCall (B : Bs) (k : Nat) (fv : Value) (ks : List Str) (tA tK : RA) : RE := fun ρ S E Q => tA ρ S E fun xs S1 => tK ρ S1 E fun zs S2 => sCall B k fv ks xs zs S2 (E ρ) Q
theorem At.call {fv : Value} {ks : List Str} {xs zs : List O} {xs' zs' : List V} {us ws : List Value} {Q : QO} (z : At G X en W σ H ρ S E pins s) (q : sCall G.B G.k fv ks xs zs S (E ρ) Q) (rx : RepOs G.B.K en W H xs xs') (rz : RepOs G.B.K en W H zs zs') (vx : Vals xs' us) (vz : Vals zs' ws) :
    wpAny (model X.prog X.w) X.A (call fv us (ks.zip ws)) (EP X pins σ (Nx G.B.K en W H Q)) X.xe s := q X en W σ H z.hf.b z.xn z.rs.ho xs' zs' rx rz pins s us ws z.I vx vz
structure Own1 (B : Bs) (x : Str) : Prop where
  g : B.mg x = some (.ref (He.ga B.K x))
  kp : PySem.W.keepIn B.K (.ref (He.ga B.K x)) = true
theorem At.kin (z : At G X en W σ H ρ S E pins s) : G.B.K.In X.base := by
  rw [← z.hf.b.K]
  exact z.I.ok.mod.kin
theorem At.kIn (z : At G X en W σ H ρ S E pins s) : G.B.K.In s.heap := by
  rw [← z.hf.b.K]
  exact z.I.kIn
theorem de_call (hc : G.B.hot = false) (hg : Glb G x) (o : Own1 G.B x) (ha : DA G (e :: es) tA) (hdb : (x == ("__debug__" : Str)) = false := by decide)
    (he : ∀ env : Env, starEach (e :: es) env = (false, eval e env) :: starEach es env := by intro _; rfl) (hpl : ∀ env : Env, (backTo pos (starEach es env)).any (·.1) = false := by intro _; rfl) :
    DE G (.Call (.Name x p) (e :: es) [] pos) (dCallF G.B G.k (.ref (He.ga G.B.K x)) [] tA aNil) := by
  refine ⟨fun {X en W σ H ρ S E pins s Q} z q => wpAny_Call_Name_kw (ld_glob z.I (gl_of z.hf.sc hg) (by rw [z.hf.b.mg]; exact o.g) ?_ hdb)⟩
  refine PySem.W.callWith_K (h₀ := X.base) z.kin o.kp (ha.at pos z q fun us s1 vs H1 W1 os S1 z1 g1 r1 ro ⟨ds, so, es', se, q1⟩ => ⟨z1.kIn, ?_⟩) (he _) (hpl _)
  subst so
  obtain rfl : es' = [] := by cases es' <;> first | rfl | cases se
  exact thn (z1.fn hc (us' := []) q1 ro .nil r1 .nil) fun _ _ => ep_back g1
theorem de_call0 (hc : G.B.hot = false) (hg : Glb G x) (o : Own1 G.B x) (hdb : (x == ("__debug__" : Str)) = false := by decide) : DE G (.Call (.Name x p) [] [] pos) (dCallF G.B G.k (.ref (He.ga G.B.K x)) [] aNil aNil) := by
  refine ⟨fun {X en W σ H ρ S E pins s Q} z ⟨ds, so, es', se, q⟩ => wpAny_Call_Name_kw (ld_glob z.I (gl_of z.hf.sc hg) (by rw [z.hf.b.mg]; exact o.g) ?_ hdb)⟩
  obtain rfl : ds = [] := by cases ds <;> first | rfl | cases so
  obtain rfl : es' = [] := by cases es' <;> first | rfl | cases se
  exact PySem.W.callWith_K0 z.kIn o.kp (z.fn hc (us := []) (us' := []) q .nil .nil .nil .nil)
/-- a built-in function, a built-in type -/
theorem de_callB {id : String} (hg : Glb G x) (hm : G.B.mg x = none) (hv : bootBuiltins x = some (.builtin id)) (ha : DA G (e :: es) tA) (hn : x ≠ "__name__" := by decide) (hdb : (x == ("__debug__" : Str)) = false := by decide)
    (he : ∀ env : Env, starEach (e :: es) env = (false, eval e env) :: starEach es env := by intro _; rfl) (hpl : ∀ env : Env, (backTo pos (starEach es env)).any (·.1) = false := by intro _; rfl) :
    DE G (.Call (.Name x p) (e :: es) [] pos) (dCall G.B G.k (.builtin id) [] tA aNil) := by
  refine ⟨fun {X en W σ H ρ S E pins s Q} z q => wpAny_Call_Name_kw (ld_blt z.I (gl_of z.hf.sc hg) (by rw [z.hf.b.mg]; exact hm) hv ?_ hn hdb)⟩
  exact PyProof.Rows.callWith_builtin1 (ha.at pos z q fun us s1 vs H1 W1 os S1 z1 g1 r1 ro q1 => thn (z1.call (ws := []) q1 ro .nil r1 .nil) fun _ _ => ep_back g1) (he _) (hpl _)
theorem de_callT {T : String} (hg : Glb G x) (hm : G.B.mg x = none) (hv : bootBuiltins x = some (.type T)) (ha : DA G (e :: es) tA) (hn : x ≠ "__name__" := by decide) (hdb : (x == ("__debug__" : Str)) = false := by decide)
    (he : ∀ env : Env, starEach (e :: es) env = (false, eval e env) :: starEach es env := by intro _; rfl) (hpl : ∀ env : Env, (backTo pos (starEach es env)).any (·.1) = false := by intro _; rfl) :
    DE G (.Call (.Name x p) (e :: es) [] pos) (dCall G.B G.k (.type T) [] tA aNil) := by
  refine ⟨fun {X en W σ H ρ S E pins s Q} z q => wpAny_Call_Name_kw (ld_blt z.I (gl_of z.hf.sc hg) (by rw [z.hf.b.mg]; exact hm) hv ?_ hn hdb)⟩
  exact PyProof.Rows.callWith_type1 (ha.at pos z q fun us s1 vs H1 W1 os S1 z1 g1 r1 ro q1 => thn (z1.call (ws := []) q1 ro .nil r1 .nil) fun _ _ => ep_back g1) (he _) (hpl _)
/-! ### methods of built-in types -/
/-- o.name(..): the type's method id -/
abbrev dBM0 (B : Bs) (k : Nat) (T id : String) (to : RE) : RE := fun ρ S E Q => to ρ S E fun x S1 => isT T x S1 ∧ sCall B k (.builtin id) [] [x] [] S1 (E ρ) Q
where isT (T : String) : O → Sto → Prop
  | .v (.str _), _ => T = "str"
  | .v (.lst _), _ => T = "list"
  | .b _, _ => T = "list"
  | .v (.ptr i), S => (T = "list" ∧ ∃ xs, S[i]? = some (.lst xs)) ∨ (T = "dict" ∧ ∃ xs, S[i]? = some (.dct xs))
  | .v (.dct _), _ => T = "dict"
  | .bd _, _ => T = "dict"
  | _, _ => False
abbrev dBM (B : Bs) (k : Nat) (T id : String) (to : RE) (tA : RA) : RE := fun ρ S E Q => to ρ S E fun x S1 => dBM0.isT T x S1 ∧ tA ρ S1 E fun xs S2 => sCall B k (.builtin id) [] (x :: xs) [] S2 (E ρ) Q
theorem isT_ty {T : String} {o : O} {v : V} {K : PySem.W.Frag} (ho : Ho K W H S) (h : dBM0.isT T o S) (r : RepO K en W H o v) : tyV K T v H := by
  cases o with
  | v d =>
    cases r with
    | str x => exact h
    | lst q r => exact .inl ⟨h, _, .inl (rd_le ho.fh q)⟩
    | dct q r => exact .inr (.inr (.inl ⟨h, .inl ⟨_, ho.fh _ _ q⟩⟩))
    | ptr hi =>
      rcases h with ⟨e, xs, q⟩ | ⟨e, xs, q⟩
      · obtain ⟨vs, q2, _⟩ := ho.cel _ _ q
        exact .inl ⟨e, vs, SqL.of q2⟩
      · obtain ⟨vs, q2, _⟩ := ho.cel _ _ q
        exact .inr (.inr (.inl ⟨e, .inl ⟨vs, q2⟩⟩))
    | _ => exact h.elim
  | b xs =>
    obtain ⟨a, vs, rfl, q, _⟩ := r
    exact .inl ⟨h, vs, SqL.of q⟩
  | bd xs =>
    obtain ⟨a, vs, rfl, q, _⟩ := r
    exact .inr (.inr (.inl ⟨h, .inl ⟨vs, q⟩⟩))
  | s C fs => exact h.elim
theorem de_bm {T id : String} {name : Str} {cpos : Pos} (pa : PlainAttrs T) (slot : Slot T name id) (hty : typeOf (.builtin id) = pure (.type "method_descriptor")) (ho : DE G o to) (ha : DA G (e :: es) tA)
    (hbase : ∀ env : Env, attributeBase o name env (eval o env) = eval o env := by intro _; rfl)
    (hfew : ∀ env : Env, ((backTo cpos (starEach (e :: es) env)).all (fun x => !x.1) && (backToKw cpos (keywordEach [] env)).all (fun x => x.1.isSome)
      && decide ((e :: es).length + ([] : List Keyword).length + (if ([] : List Keyword).isEmpty then 0 else 1) < 30)) = true := by intro _; rfl)
    (hline : (apos.endLine == cpos.line) = true := by rfl) (hs : ∀ env : Env, starEach (e :: es) env = (false, eval e env) :: starEach es env := by intro _; rfl) (hplain : ∀ env : Env, (backTo cpos (starEach es env)).any (·.1) = false := by intro _; rfl) :
    DE G (.Call (.Attribute o name apos) (e :: es) [] cpos) (dBM G.B G.k T id to tA) := by
  refine ⟨fun {X en W σ H ρ S E pins s Q} z q => wpAny_Call_method_late (hbase _) (hfew _) hline rfl (ho.at z q fun v s1 x' H1 W1 o1 S1 z1 g1 r1 ro ⟨ty, q1⟩ => ?_)⟩
  obtain ⟨h1, h2⟩ := tyV_is z1.I r1 (by rw [z.hf.b.K]; exact isT_ty z1.rs.ho ty ro)
  refine ⟨T, id, pa, slot, hty, h1, h2, ?_⟩
  have hA := ha.at (P := fun us s2 => wpAny (model X.prog X.w) X.A (call (.builtin id) (v :: us)) (EP X pins σ (Nx G.B.K en W H Q)) X.xe s2) cpos z1 q1 fun us s2 vs H2 W2 os S2 z2 g2 r2 ro2 q2 =>
    thn (z2.call (us := v :: us) (ws := []) q2 (.cons (ro.go g2) ro2) .nil (.cons r1 r2) .nil) fun _ _ => ep_back (g1.trans g2 z2.rs.ho)
  rw [hs] at hA ⊢
  refine Calls.callWith_builtin (by show (false || (backTo cpos (starEach es X.env)).any (·.1)) = false; rw [hplain] <;> rfl) (Calls.evalArgs_plain hA)

/-! ### subscripts, slices, attributes -/
/-- x[y] -/
def sIx (B : Bs) (k : Nat) (x y : O) (S : Sto) (Ex : XS) (Q : QO) : Prop :=
  ∀ (X : Cx) (en : En) (W : Wd) (σ : L2.St) (H : Hp), FitsB B k X en → Takes X (XN B.K W H σ Ex) → Ho B.K W H S → ∀ x' y', RepO B.K en W H x x' → RepO B.K en W H y y' →
    ∀ (value slice : Expr) (pins : List (Addr × Obj)) (s : Shared) (v u : Value), Inv X pins σ H s → RelV x' v → RelV y' u → subscripted slice false v u = operate [v, u] (getItem v u) → wpAny (model X.prog X.w) X.A (subscriptTail value slice v u) (EP X pins σ (Nx B.K en W H Q)) X.xe s
abbrev dIx (B : Bs) (k : Nat) (ta tb : RE) : RE := fun ρ S E Q => ta ρ S E fun x S1 => tb ρ S1 E fun y S2 => sIx B k x y S2 (E ρ) Q
theorem de_ix (ha : DE G a ta) (hb : DE G b tb) (hs : PlainIx b) : DE G (.Subscript a b pos) (dIx G.B G.k ta tb) := by
  refine ⟨fun {X en W σ H ρ S E pins s Q} z q => Subscript_ (ha.at z q fun v s1 x' H1 W1 o S1 z1 g1 r1 ro q1 => hb.at z1 q1 fun u s2 y' H2 W2 o2 S2 z2 g2 r2 ro2 q2 => ?_)⟩
  exact thn (q2 X en W2 σ H2 z2.hf.b z2.xn z2.rs.ho x' y' (ro.go g2) ro2 a b pins s2 v u z2.I r1 r2 (hs _ _)) fun _ _ => ep_back (g1.trans g2 z2.rs.ho)
/-- a slice's part -/
abbrev RO := List Sl → Sto → XD → (Option Int → Sto → Prop) → Prop
structure DO (G : Cf) (e : Option Expr) (t : RO) : Prop where
  run : ∀ {X en W σ H ρ S E pins s Q}, At G X en W σ H ρ S E pins s → t ρ S E Q → wpAny (model X.prog X.w) X.A (evalPart e X.env) (fun u s' => ∃ o H' W' S', At G X en W' σ H' ρ S' E pins s' ∧ Go W H W' H' ∧ IsPart u o ∧ Q o S') X.xe s
abbrev oNo : RO := fun _ S _ Q => Q none S
abbrev oSome (t : RE) : RO := fun ρ S E Q => t ρ S E fun x S1 => ∃ i, x = .v (.int i) ∧ Q (some i) S1
theorem do_no : DO G none oNo := by
  refine ⟨fun {X en W σ H ρ S E pins s Q} z q => ?_⟩
  rw [evalPart_none]
  exact wpAny_pure ⟨none, H, W, S, z, .refl, .none, q⟩
theorem do_some (h : DE G e te) : DO G (some e) (oSome te) := by
  refine ⟨fun {X en W σ H ρ S E pins s Q} z q => ?_⟩
  rw [evalPart_some]
  refine h.at z q fun u s1 x' H1 W1 o S1 z1 g1 r1 ro ⟨i, e1, q1⟩ => ?_
  subst e1
  cases ro
  obtain ⟨t, rfl⟩ := r1
  exact ⟨some i, H1, W1, S1, z1, g1, .int i t, q1⟩
/-- x[lo:hi] -/
def sSl (B : Bs) (k : Nat) (x : O) (lo hi : Option Int) (S : Sto) (Q : QO) : Prop :=
  ∀ (X : Cx) (en : En) (W : Wd) (σ : L2.St) (H : Hp), FitsB B k X en → Ho B.K W H S → ∀ x', RepO B.K en W H x x' →
    ∀ (pins : List (Addr × Obj)) (s : Shared) (v vl vu : Value) (sl : Addr), Inv X pins σ H s → RelV x' v → s.heap.IsSliceOf sl vl vu .none → IsPart vl lo → IsPart vu hi →
    ∃ T id, typeLookup (.type T) "__getitem__" = pure (some (.builtin id)) ∧ s.TypeIs v T ∧ wpAny (model X.prog X.w) X.A (getItem v (.ref sl)) (EP X pins σ (Nx B.K en W H Q)) X.xe s
abbrev dSl (B : Bs) (k : Nat) (ta : RE) (tl th : RO) : RE := fun ρ S E Q => ta ρ S E fun x S1 => tl ρ S1 E fun l S2 => th ρ S2 E fun u S3 => sSl B k x l u S3 Q
theorem de_sl {lo hi : Option Expr} {tl th : RO} {p2 : Pos} (he : DE G e te) (hl : DO G lo tl) (hu : DO G hi th) : DE G (.Subscript e (.Slice lo hi none p2) pos) (dSl G.B G.k te tl th) := by
  refine ⟨fun {X en W σ H ρ S E pins s Q} z q => Subscript_ (he.at z q fun v s1 x' H1 W1 o S1 z1 g1 r1 ro q1 => ?_)⟩
  refine wpAny_Slice (thn (hl.run z1 q1) fun vl s2 ⟨l, H2, W2, S2, z2, g2, pl, q2⟩ => thn (hu.run z2 q2) fun vu s3 ⟨u, H3, W3, S3, z3, g3, pu, q3⟩ => ?_)
  rw [evalPart_none]
  refine wpAny_pure ?_
  have I4 : Inv X pins σ H3 { s3 with heap := s3.heap.push { cls := .type "slice", data := .fields #[vl, vu, .none] } } := z3.I.kept (t' := s3.toks) fun b ob q => Heap.get?_push_of_some _ q
  obtain ⟨T, id, hT, ht, hg⟩ := q3 X en W3 σ H3 z3.hf.b z3.rs.ho x' (ro.go (g2.trans g3 z3.rs.ho)) pins _ v vl vu s3.heap.objs.size I4 r1 (Heap.IsSliceOf.new ..) pl pu
  show wpAny (model X.prog X.w) X.A (subscriptTail e (.Slice lo hi none p2) v (.ref s3.heap.objs.size)) (EP X pins σ (Nx G.B.K en W H Q)) X.xe { s3 with heap := s3.heap.push { cls := .type "slice", data := .fields #[vl, vu, .none] } }
  exact tail_any (ops := [.ref s3.heap.objs.size, v]) ht hT (thn hg fun _ _ => ep_back ((g1.trans g2 z2.rs.ho).trans g3 z3.rs.ho)) (by with_unfolding_all rfl)
/-- x.f -/
def sAttr (B : Bs) (k : Nat) (f : Str) (x : O) (S : Sto) (Ex : XS) (Q : QO) : Prop := sem1 B k (fun v => getAttr v f true) x S Ex Q
abbrev dAttr (B : Bs) (k : Nat) (f : Str) (ta : RE) : RE := fun ρ S E Q => ta ρ S E fun x S1 => sAttr B k f x S1 (E ρ) Q
theorem de_attr {f : Str} (he : DE G e te) (hab : ∀ env : Env, attributeBase e f env (eval e env) = eval e env := by intro _; rfl) : DE G (.Attribute e f pos) (dAttr G.B G.k f te) :=
  ⟨fun {X en W σ H ρ S E pins s Q} z q => attr_of (hab _) (he.at z q fun v s1 x' H1 W1 o S1 z1 g1 r1 ro q1 => thn (z1.op1 (f := fun v => getAttr v f true) r1 ro q1) fun _ _ => ep_back g1)⟩
end
end Dt

set_option Elab.async false
set_option linter.all false
set_option maxRecDepth 100000
set_option maxHeartbeats 4000000
/-! DatD: statements, targets, loops, comprehensions -/
namespace Dt
open PySem PySem.Spec PyProof.Rows L2 My
structure DEnds where
  nx : List Sl → Sto → Prop
  rt : D → List Sl → Sto → Prop
  bk : List Sl → Sto → Prop
  ct : List Sl → Sto → Prop
  ex : XD
abbrev RS := DEnds → List Sl → Sto → Prop
def ends (K : PySem.W.Frag) (en : En) (W : Wd) (D : DEnds) : Ends where
  nx := fun σ' H' => ∃ W' ρ' S', Rs K en W' σ' H' ρ' S' ∧ W.Le W' ∧ D.nx ρ' S'
  rt := fun v H' => ∃ W' σ' ρ' d S', Rs K en W' σ' H' ρ' S' ∧ W.Le W' ∧ Rep K W' d v ∧ D.rt d ρ' S'
  bk := fun σ' H' => ∃ W' ρ' S', Rs K en W' σ' H' ρ' S' ∧ W.Le W' ∧ D.bk ρ' S'
  ct := fun σ' H' => ∃ W' ρ' S', Rs K en W' σ' H' ρ' S' ∧ W.Le W' ∧ D.ct ρ' S'
theorem sp_back {X : Cx} {pins : List (Addr × Obj)} {K : PySem.W.Frag} {en : En} {W W1 : Wd} {D : DEnds} {f : Flow} {s' : Shared} (l : W.Le W1) (h : SP X pins (ends K en W1 D) f s') : SP X pins (ends K en W D) f s' := by
  cases f with
  | next => exact let ⟨σ, H, I, W', ρ, S, r, l2, q⟩ := h; ⟨σ, H, I, W', ρ, S, r, l.trans l2, q⟩
  | brk => exact let ⟨σ, H, I, W', ρ, S, r, l2, q⟩ := h; ⟨σ, H, I, W', ρ, S, r, l.trans l2, q⟩
  | cont => exact let ⟨σ, H, I, W', ρ, S, r, l2, q⟩ := h; ⟨σ, H, I, W', ρ, S, r, l.trans l2, q⟩
  | ret v => exact let ⟨v, σ, H, I, r0, W', σ', ρ, d, S, r, l2, rp, q⟩ := h; ⟨v, σ, H, I, r0, W', σ', ρ, d, S, r, l.trans l2, rp, q⟩
structure DS (G : Cf) (st : Stmt) (t : RS) : Prop where
  run : ∀ {X en W σ H ρ S pins s D}, At G X en W σ H ρ S D.ex pins s → t D ρ S → wpAny (model X.prog X.w) X.A (exec st X.env) (SP X pins (ends G.B.K en W D)) X.xe s
structure DSs (G : Cf) (st : List Stmt) (t : RS) : Prop where
  run : ∀ {X en W σ H ρ S pins s D}, At G X en W σ H ρ S D.ex pins s → t D ρ S → wpAny (model X.prog X.w) X.A (execs st X.env) (SP X pins (ends G.B.K en W D)) X.xe s

/-! ### slots -/
section
variable {K : PySem.W.Frag} {en : En} {W : Wd} {σ : L2.St} {H : Hp} {ρ : List Sl} {S : Sto}
/-- an own list, an own dict becomes a value; a slot is forgotten -/
inductive Fz : List Sl → List Sl → Prop where
  | refl {ρ : List Sl} : Fz ρ ρ
  | frz {ρ ρ' : List Sl} (i : Nat) {xs : List D} (e : ρ[i]? = some (.ol xs)) (h : Fz (ρ.set i (.sh (.lst xs))) ρ') : Fz ρ ρ'
  | frd {ρ ρ' : List Sl} (i : Nat) {xs : List (Key × D)} (e : ρ[i]? = some (.od xs)) (h : Fz (ρ.set i (.sh (.dct xs))) ρ') : Fz ρ ρ'
  | off {ρ ρ' : List Sl} (i : Nat) (h : Fz (ρ.set i .un) ρ') : Fz ρ ρ'
theorem RelS.own {s : Sl} {v : V} (h : RelS K en W H (some (some v)) s) (o : isOwn s = true) : ∃ a u, v = .ref a ∧ H a = some u ∧ Own en W H a := by
  cases s with
  | ol xs =>
    obtain ⟨a, vs, e, q, r, w⟩ := h
    exact ⟨a, _, Option.some.inj (Option.some.inj e), q, w⟩
  | od xs =>
    obtain ⟨a, vs, e, q, r, w⟩ := h
    exact ⟨a, _, Option.some.inj (Option.some.inj e), q, w⟩
  | slf C xs =>
    obtain ⟨a, vs, e, q, r, w⟩ := h
    exact ⟨_, _, Option.some.inj (Option.some.inj e), q, w⟩
  | _ => cases o
/-- a slot gets a value that is no own object -/
theorem Rs.set (r : Rs K en W σ H ρ S) (i : Nat) {s : Sl} {v : Option V} (hs : isOwn s = false) (h : RelS K en W H (some v) s) : Rs K en W (σ.set i v) H (ρ.set i s) S where
  ho := r.ho
  go := r.go
  len := by rw [List.length_set, List.length_set]; exact r.len
  sl := fun j t e => by
    by_cases z : i = j
    · subst z
      have hi : i < ρ.length := by
        have := (List.getElem?_eq_some_iff.mp e).1
        rw [List.length_set] at this
        exact this
      rw [List.getElem?_set_self hi] at e
      cases e
      rw [List.getElem?_set_self (by rw [← r.len]; exact hi)]
      exact h
    · rw [List.getElem?_set_ne z] at e
      rw [List.getElem?_set_ne z]
      exact r.sl j t e
  dis := fun j l t u a ne e1 o1 e2 o2 q1 q2 => by
    have hj : i ≠ j := fun z => by
      subst z
      rw [List.getElem?_set_self (by have := (List.getElem?_eq_some_iff.mp e1).1; rw [List.length_set] at this; exact this)] at e1
      cases e1
      rw [hs] at o1
      cases o1
    have hl : i ≠ l := fun z => by
      subst z
      rw [List.getElem?_set_self (by have := (List.getElem?_eq_some_iff.mp e2).1; rw [List.length_set] at this; exact this)] at e2
      cases e2
      rw [hs] at o2
      cases o2
    rw [List.getElem?_set_ne hj] at e1 q1
    rw [List.getElem?_set_ne hl] at e2 q2
    exact r.dis j l t u a ne e1 o1 e2 o2 q1 q2
/-- a slot gets an own object that no other slot has -/
theorem Rs.setO (r : Rs K en W σ H ρ S) (i : Nat) {s : Sl} {a : Addr} (h : RelS K en W H (some (some (.ref a))) s) (n : ∀ (j : Nat) (t : Sl), i ≠ j → ρ[j]? = some t → isOwn t = true → σ[j]? = some (some (.ref a)) → False) : Rs K en W (σ.set i (some (.ref a))) H (ρ.set i s) S where
  ho := r.ho
  go := r.go
  len := by rw [List.length_set, List.length_set]; exact r.len
  sl := fun j t e => by
    by_cases z : i = j
    · subst z
      have hi : i < ρ.length := by
        have := (List.getElem?_eq_some_iff.mp e).1
        rw [List.length_set] at this
        exact this
      rw [List.getElem?_set_self hi] at e
      cases e
      rw [List.getElem?_set_self (by rw [← r.len]; exact hi)]
      exact h
    · rw [List.getElem?_set_ne z] at e
      rw [List.getElem?_set_ne z]
      exact r.sl j t e
  dis := fun j l t u b ne e1 o1 e2 o2 q1 q2 => by
    have at_i : ∀ {j : Nat} {b : Addr}, i = j → (σ.set i (some (.ref a)))[j]? = some (some (.ref b)) → b = a := fun {j b} z q => by
      subst z
      have hi : i < σ.length := by
        have := (List.getElem?_eq_some_iff.mp q).1
        rw [List.length_set] at this
        exact this
      rw [List.getElem?_set_self hi] at q
      cases q
      rfl
    by_cases hj : i = j
    · by_cases hl : i = l
      · exact ne (hj.symm.trans hl)
      · obtain rfl := at_i hj q1
        rw [List.getElem?_set_ne hl] at e2 q2
        exact n l u hl e2 o2 q2
    · by_cases hl : i = l
      · obtain rfl := at_i hl q2
        rw [List.getElem?_set_ne hj] at e1 q1
        exact n j t hj e1 o1 q1
      · rw [List.getElem?_set_ne hj] at e1 q1
        rw [List.getElem?_set_ne hl] at e2 q2
        exact r.dis j l t u b ne e1 o1 e2 o2 q1 q2
/-- the own object at slot i changes its world: it is frozen -/
theorem Rs.freeze (r : Rs K en W σ H ρ S) {i : Nat} {s : Sl} {a : Addr} {u : HO} {d : D} (e : ρ[i]? = some s) (o : isOwn s = true) (q : σ[i]? = some (some (.ref a))) (hu : H a = some u) (w : Own en W H a)
    (rp : Rep K (W.frz a u) d (.ref a)) : Rs K en (W.frz a u) σ H (ρ.set i (.sh d)) S := by
  have nf : W.Le (W.frz a u) := W.frz_le w.f
  have ho : Ho K (W.frz a u) H S := ⟨r.ho.n, fun b x z => by
    by_cases c : b = a
    · subst c
      rw [show (W.frz b u).F b = some u from upd_same] at z
      rw [hu]
      exact z
    · rw [show (W.frz a u).F b = W.F b from upd_ne c] at z
      exact r.ho.fh b x z, r.ho.inj, fun j hj => by
    show upd W.F a u (W.m j) = none
    rw [upd_ne (w.m j hj)]
    exact r.ho.mF j hj, r.ho.there, fun j c z => (r.ho.cel j c z).le nf fun x y => y⟩
  have go : Go en.W en.H (W.frz a u) H := ⟨r.go.le.trans nf, fun b x z => by
    by_cases c : b = a
    · subst c
      exact .inr w.e
    · rw [show (W.frz a u).F b = W.F b from upd_ne c] at z
      exact r.go.fn b x z, r.go.kp, r.go.mn⟩
  refine ⟨ho, go, by rw [List.length_set]; exact r.len, fun j t z => ?_, fun j l t x b ne e1 o1 e2 o2 q1 q2 => ?_⟩
  · by_cases c : i = j
    · subst c
      rw [List.getElem?_set_self (List.getElem?_eq_some_iff.mp e).1] at z
      cases z
      exact ⟨_, q, rp⟩
    · rw [List.getElem?_set_ne c] at z
      have h := r.sl j t z
      have far : ∀ b, isOwn t = true → σ[j]? = some (some (.ref b)) → Own en W H b → Own en (W.frz a u) H b := fun b o2 q2 w2 => by
        have ba : b ≠ a := fun y => by
          subst y
          exact r.dis i j s t b c e o z o2 q q2
        exact ⟨(show upd W.F a u b = none by rw [upd_ne ba]; exact w2.f), w2.e, w2.m⟩
      cases t with
      | un => trivial
      | sh d => exact let ⟨v, e, k⟩ := h; ⟨v, e, k.le nf⟩
      | ol xs => exact let ⟨b, vs, e1, k, k2, k3⟩ := h; ⟨b, vs, e1, k, k2.le nf, far b rfl e1 k3⟩
      | od xs => exact let ⟨b, vs, e1, k, k2, k3⟩ := h; ⟨b, vs, e1, k, k2.le nf, far b rfl e1 k3⟩
      | slf C xs => exact let ⟨dx, vs, e1, k, k2, k3⟩ := h; ⟨dx, vs, e1, k, k2.le nf, far en.me rfl e1 k3⟩
      | exc C xs => exact let ⟨p, e1, k, k2⟩ := h; ⟨p, e1, k, k2.le nf⟩
  · have hj : i ≠ j := fun z => by
      subst z
      rw [List.getElem?_set_self (List.getElem?_eq_some_iff.mp e).1] at e1
      cases e1
      cases o1
    have hl : i ≠ l := fun z => by
      subst z
      rw [List.getElem?_set_self (List.getElem?_eq_some_iff.mp e).1] at e2
      cases e2
      cases o2
    rw [List.getElem?_set_ne hj] at e1
    rw [List.getElem?_set_ne hl] at e2
    exact r.dis j l t x b ne e1 o1 e2 o2 q1 q2
theorem Rs.fz {ρ' : List Sl} (z : Fz ρ ρ') : ∀ {W : Wd}, Rs K en W σ H ρ S → ∃ W', Rs K en W' σ H ρ' S ∧ W.Le W' := by
  induction z with
  | refl => exact fun r => ⟨_, r, .refl⟩
  | frz i e _ ih =>
    intro W r
    obtain ⟨a, vs, q, hu, k, w⟩ := r.sl i _ e
    obtain ⟨W', r', l⟩ := ih (r.freeze e rfl q hu w (.lst (.inl upd_same) (k.le (W.frz_le w.f))))
    exact ⟨W', r', (W.frz_le w.f).trans l⟩
  | frd i e _ ih =>
    intro W r
    obtain ⟨a, vs, q, hu, k, w⟩ := r.sl i _ e
    obtain ⟨W', r', l⟩ := ih (r.freeze e rfl q hu w (.dct upd_same (k.le (W.frz_le w.f))))
    exact ⟨W', r', (W.frz_le w.f).trans l⟩
  | @off ρ0 ρ1 i _ ih =>
    intro W r
    refine ih ⟨r.ho, r.go, by rw [List.length_set]; exact r.len, fun j t z => ?_, fun j l t x b ne e1 o1 e2 o2 q1 q2 => ?_⟩
    · by_cases c : i = j
      · subst c
        rw [List.getElem?_set_self (by have := (List.getElem?_eq_some_iff.mp z).1; rw [List.length_set] at this; exact this)] at z
        cases z
        trivial
      · rw [List.getElem?_set_ne c] at z
        exact r.sl j t z
    · have hj : i ≠ j := fun z => by
        subst z
        rw [List.getElem?_set_self (by have := (List.getElem?_eq_some_iff.mp e1).1; rw [List.length_set] at this; exact this)] at e1
        cases e1
        cases o1
      have hl : i ≠ l := fun z => by
        subst z
        rw [List.getElem?_set_self (by have := (List.getElem?_eq_some_iff.mp e2).1; rw [List.length_set] at this; exact this)] at e2
        cases e2
        cases o2
      rw [List.getElem?_set_ne hj] at e1
      rw [List.getElem?_set_ne hl] at e2
      exact r.dis j l t x b ne e1 o1 e2 o2 q1 q2
/-- what an own slot holds changes -/
theorem Rs.put (r : Rs K en W σ H ρ S) {i : Nat} {s s' : Sl} {a : Addr} {u : HO} (e : ρ[i]? = some s) (o : isOwn s = true) (o' : isOwn s' = true) (q : σ[i]? = some (some (.ref a))) (w : Own en W H a)
    (h : RelS K en W (upd H a u) (some (some (.ref a))) s') : Rs K en W σ (upd H a u) (ρ.set i s') S where
  ho := ⟨r.ho.n, fun b x z => by
    have c : b ≠ a := fun y => by
      rw [y, w.f] at z
      cases z
    rw [upd_ne c]
    exact r.ho.fh b x z, r.ho.inj, r.ho.mF, fun j hj => by
    rw [upd_ne (w.m j hj)]
    exact r.ho.there j hj, fun j c z => by
    have hj : j < W.n := by
      rw [r.ho.n]
      exact (List.getElem?_eq_some_iff.mp z).1
    exact (r.ho.cel j c z).le .refl fun x y => by rw [upd_ne (w.m j hj)]; exact y⟩
  go := ⟨r.go.le, r.go.fn, fun b x z n => by
    have c : b ≠ a := fun y => by
      rw [y, w.e] at z
      cases z
    rw [upd_ne c]
    exact r.go.kp b x z n, r.go.mn⟩
  len := by rw [List.length_set]; exact r.len
  sl := fun j t z => by
    by_cases c : i = j
    · subst c
      rw [List.getElem?_set_self (List.getElem?_eq_some_iff.mp e).1] at z
      cases z
      rw [q]
      exact h
    · rw [List.getElem?_set_ne c] at z
      have h := r.sl j t z
      have far : ∀ b x, isOwn t = true → σ[j]? = some (some (.ref b)) → H b = some x → upd H a u b = some x := fun b x o2 q2 k => by
        rw [upd_ne (fun y => by
          subst y
          exact r.dis i j s t b c e o z o2 q q2)]
        exact k
      have far2 : ∀ b, Own en W H b → Own en W (upd H a u) b := fun b w => ⟨w.f, w.e, w.m⟩
      cases t with
      | un => trivial
      | sh d => exact h
      | ol xs => exact let ⟨b, vs, e1, k, k2, k3⟩ := h; ⟨b, vs, e1, far b _ rfl e1 k, k2, far2 b k3⟩
      | od xs => exact let ⟨b, vs, e1, k, k2, k3⟩ := h; ⟨b, vs, e1, far b _ rfl e1 k, k2, far2 b k3⟩
      | slf C xs => exact let ⟨dx, vs, e1, k, k2, k3⟩ := h; ⟨dx, vs, e1, far en.me _ rfl e1 k, k2, far2 en.me k3⟩
      | exc C xs => exact h
  dis := fun j l t x b ne e1 o1 e2 o2 q1 q2 => by
    have back : ∀ {j : Nat} {t : Sl}, (ρ.set i s')[j]? = some t → isOwn t = true → ∃ t', ρ[j]? = some t' ∧ isOwn t' = true := fun {j t} z o => by
      by_cases c : i = j
      · subst c
        exact ⟨s, e, by assumption⟩
      · rw [List.getElem?_set_ne c] at z
        exact ⟨t, z, o⟩
    obtain ⟨t1, y1, p1⟩ := back e1 o1
    obtain ⟨t2, y2, p2⟩ := back e2 o2
    exact r.dis j l t1 t2 b ne y1 p1 y2 p2 q1 q2
end

section
variable {G : Cf} {X : Cx} {en : En} {W W1 : Wd} {σ : L2.St} {H H1 : Hp} {ρ : List Sl} {S S1 : Sto} {pins : List (Addr × Obj)} {s s1 : Shared} {e a b c o : Expr} {es : List Expr} {t ta tb tc te to : RE} {tA tK : RA} {pos p apos : Pos} {x m : Str} {st : Stmt} {rest : List Stmt} {ts us : RS}
theorem At.sp {D : DEnds} (z : At G X en W σ H ρ S D.ex pins s) (q : D.nx ρ S) : SP X pins (ends G.B.K en W D) .next s := ⟨σ, H, z.I, W, ρ, S, z.rs, .refl, q⟩
/-! ### blocks -/
def dSeq (t u : RS) : RS := fun D ρ S => ∃ ρ', Fz ρ ρ' ∧ t { D with nx := u D } ρ' S
def dEnd (t : RS) : RS := fun D ρ S => ∃ ρ', Fz ρ ρ' ∧ t D ρ' S
def dNil : RS := fun D ρ S => D.nx ρ S
theorem dss_nil : DSs G [] dNil := ⟨fun {X en W σ H ρ S pins s D} z q => wpAny_execs_nil (z.sp q)⟩
theorem dss_cons (h1 : DS G st ts) (h2 : DSs G rest us) : DSs G (st :: rest) (dSeq ts us) := by
  refine ⟨fun {X en W σ H ρ S pins s D} z ⟨ρ', f, q⟩ => ?_⟩
  obtain ⟨W1, r1, l1⟩ := z.rs.fz f
  have z1 : At G X en W1 σ H ρ' S D.ex pins s := ⟨z.hf, tk_up l1 z.tk, r1, z.I⟩
  refine wpAny_execs_cons (thn (h1.run (D := { D with nx := us D }) z1 q) fun fl s1 q => ?_)
  cases fl with
  | next =>
    obtain ⟨σ', H', I', W', ρ2, S', r2, l2, q2⟩ := q
    exact thn (h2.run ⟨z.hf, tk_up (l1.trans l2) z.tk, r2, I'⟩ q2) fun _ _ => sp_back (l1.trans l2)
  | ret v => exact sp_back (D := D) (f := .ret v) l1 q
  | brk => exact sp_back (D := D) (f := .brk) l1 q
  | cont => exact sp_back (D := D) (f := .cont) l1 q
theorem dss_one (h1 : DS G st ts) : DSs G [st] (dEnd ts) := by
  refine ⟨fun {X en W σ H ρ S pins s D} z ⟨ρ', f, q⟩ => ?_⟩
  obtain ⟨W1, r1, l1⟩ := z.rs.fz f
  have z1 : At G X en W1 σ H ρ' S D.ex pins s := ⟨z.hf, tk_up l1 z.tk, r1, z.I⟩
  refine wpAny_execs_cons (thn (h1.run z1 q) fun fl s1 q => ?_)
  cases fl with
  | next => exact wpAny_execs_nil (sp_back (D := D) (f := .next) l1 q)
  | ret v => exact sp_back (D := D) (f := .ret v) l1 q
  | brk => exact sp_back (D := D) (f := .brk) l1 q
  | cont => exact sp_back (D := D) (f := .cont) l1 q
def dBrk : RS := fun D ρ S => D.bk ρ S
def dCnt : RS := fun D ρ S => D.ct ρ S
def dExpr (te : RE) : RS := fun D ρ S => te ρ S D.ex fun _ S1 => D.nx ρ S1
theorem ds_expr (he : DE G e te) (hs : ∀ env : Env, swapsWith e none pos.line env = pure false := by intro _; rfl) : DS G (.Expr e pos) (dExpr te) :=
  ⟨fun {X en W σ H ρ S pins s D} z q => wpAny_Expr_any (he.at z q fun v s1 x' H1 W1 o S1 z1 g1 r1 ro q1 => sp_back (D := D) (f := .next) g1.le (z1.sp q1)) z.I.quiet (hs _)⟩
def dRet (te : RE) : RS := fun D ρ S => te ρ S D.ex fun o S1 => ∃ d, o = .v d ∧ D.rt d ρ S1
theorem ds_ret (he : DE G e te) : DS G (.Return (some e) pos) (dRet te) :=
  ⟨fun {X en W σ H ρ S pins s D} z q => wpAny_Return_some (he.at z q fun v s1 x' H1 W1 o S1 z1 g1 r1 ro ⟨d, e1, q1⟩ => by
    subst e1
    exact ⟨x', σ, H1, z1.I, r1, W1, σ, ρ, d, S1, z1.rs, g1.le, ro, q1⟩)⟩
def dRetN : RS := fun D ρ S => D.rt .non ρ S
def dIfS (c : RT) (t u : RS) : RS := fun D ρ S => c ρ S D.ex fun b S1 => if b = true then t D ρ S1 else u D ρ S1
theorem ds_if {c : Expr} {sa sb : List Stmt} {tc : RT} (hc : DT G c tc) (ha : DSs G sa ts) (hb : DSs G sb us) : DS G (.If c sa sb pos) (dIfS tc ts us) := by
  refine ⟨fun {X en W σ H ρ S pins s D} z q => wpAny_If (hc.at z q fun d s1 H1 W1 S1 z1 g1 q1 => ?_)⟩
  cases d with
  | true => exact thn (ha.run z1 q1) fun _ _ => sp_back g1.le
  | false => exact thn (hb.run z1 q1) fun _ _ => sp_back g1.le
/-! ### targets -/
abbrev RG := D → List Sl → Sto → XD → (List Sl → Sto → Prop) → Prop
abbrev RGs := List D → List Sl → Sto → XD → (List Sl → Sto → Prop) → Prop
/-- vs: the slots that may change -/
structure DG (G : Cf) (target : Expr) (vs : List Nat) (t : RG) : Prop where
  run : ∀ {X en W σ H ρ S E pins s Q d v u}, At G X en W σ H ρ S E pins s → Rep G.B.K W d v → RelV v u → t d ρ S E Q →
    wpAny (model X.prog X.w) X.A (assign target X.env u) (fun _ s' => ∃ σ' H' W' ρ' S', At G X en W' σ' H' ρ' S' E pins s' ∧ (W.Le W' ∧ Q ρ' S') ∧ ((∀ j, j ∉ vs → σ'[j]? = σ[j]?) ∧ σ'.length = σ.length) ∧ Go W H W' H') X.xe s
structure DGs (G : Cf) (ts : List Expr) (ws : List Nat) (t : RGs) : Prop where
  run : ∀ {X en W σ H ρ S E pins s Q ds vs us}, At G X en W σ H ρ S E pins s → Reps G.B.K W ds vs → Vals vs us → t ds ρ S E Q →
    wpAny (model X.prog X.w) X.A (assignInOrder ((assignEach ts X.env).map (·.2)) us) (fun _ s' => ∃ σ' H' W' ρ' S', At G X en W' σ' H' ρ' S' E pins s' ∧ (W.Le W' ∧ Q ρ' S') ∧ ((∀ j, j ∉ ws → σ'[j]? = σ[j]?) ∧ σ'.length = σ.length) ∧ Go W H W' H') X.xe s
def gName (i : Nat) : RG := fun d ρ S _ Q => Q (ρ.set i (.sh d)) S
abbrev Sto1 (G : Cf) (x : Str) : Prop := G.fn x = true ∨ G.sc.names.lookup x = some .local
theorem Fits.sto {i : Nat} (f : Fits G X en) (hi : G.N[i]? = some x) (hx : Loc G.sc x) (hf : Sto1 G x) : X.N[i]? = some x ∧ Loc X.env.scope x ∧ (X.fn x = true ∨ X.env.scope.names.lookup x = some .local) :=
  ⟨by rw [f.N]; exact hi, by rw [f.sc]; exact hx, hf.elim (fun h => .inl (f.fn x h)) fun h => .inr (by rw [f.sc]; exact h)⟩
theorem dg_name {i : Nat} (hi : G.N[i]? = some x) (hx : Loc G.sc x) (hf : Sto1 G x := by first | exact .inr rfl | exact .inl rfl) : DG G (.Name x pos) [i] (gName i) := by
  refine ⟨fun {X en W σ H ρ S E pins s Q d v u} z r rv q => ?_⟩
  obtain ⟨h1, h2, h3⟩ := z.hf.sto hi hx hf
  exact wpAny_assign_Name (store_ok z.I z.hf.nd h1 h2 rv (fun s' I' => ⟨_, H, W, _, S, ⟨z.hf, z.tk, z.rs.set i (s := .sh d) rfl ⟨v, rfl, r⟩, I'⟩, ⟨.refl, q⟩, ⟨fun j hj => List.getElem?_set_ne fun c => hj (by rw [c]; exact List.mem_cons_self), List.length_set⟩, .refl⟩) h3)
def gNil : RGs := fun ds ρ S _ Q => ds = [] ∧ Q ρ S
def gCons (t : RG) (u : RGs) : RGs := fun ds ρ S E Q => ∃ d r, ds = d :: r ∧ t d ρ S E fun ρ' S' => u r ρ' S' E Q
theorem dgs_nil : DGs G [] [] gNil := by
  refine ⟨fun {X en W σ H ρ S E pins s Q ds vs us} z r rv ⟨e, q⟩ => ?_⟩
  subst e
  cases r
  cases rv
  exact assignInOrder_nil ⟨σ, H, W, ρ, S, z, ⟨.refl, q⟩, ⟨fun _ _ => rfl, rfl⟩, .refl⟩
theorem dgs_cons {t : RG} {u : RGs} {vs ws : List Nat} (h1 : DG G e vs t) (h2 : DGs G es ws u) (hs : ∀ env : Env, (assignEach (e :: es) env).map (·.2) = assign e env :: (assignEach es env).map (·.2) := by intro _; rfl) : DGs G (e :: es) (vs ++ ws) (gCons t u) := by
  refine ⟨fun {X en W σ H ρ S E pins s Q ds vs us} z r rv ⟨d, dr, e1, q⟩ => ?_⟩
  subst e1
  cases r with
  | cons r rr =>
    cases rv with
    | cons v vv =>
      rw [hs]
      refine assignInOrder_cons (thn (h1.run z r v q) fun _ s1 ⟨σ1, H1, W1, ρ1, S1, z1, ⟨l1, q1⟩, ⟨k1, n1⟩, g1⟩ => ?_)
      exact thn (h2.run z1 (rr.le l1) vv q1) fun _ s2 ⟨σ2, H2, W2, ρ2, S2, z2, ⟨l2, q2⟩, ⟨k2, n2⟩, g2⟩ => ⟨σ2, H2, W2, ρ2, S2, z2, ⟨l1.trans l2, q2⟩, ⟨fun j hj => (k2 j fun c => hj (List.mem_append_right _ c)).trans (k1 j fun c => hj (List.mem_append_left _ c)), n2.trans n1⟩, g1.trans g2 z2.rs.ho⟩
def gTup (n : Nat) (t : RGs) : RG := fun d ρ S E Q => ∃ xs, d = .tup xs ∧ xs.length = n ∧ t xs ρ S E Q
theorem Rep.tupI {K : PySem.W.Frag} {xs : List D} {v : V} (h : Rep K W (.tup xs) v) : ∃ a vs, v = .ref a ∧ SqT K W.F a vs ∧ Reps K W xs vs := by
  cases h with
  | tup h r => exact ⟨_, _, rfl, h, r⟩
theorem Rep.lstI {K : PySem.W.Frag} {xs : List D} {v : V} (h : Rep K W (.lst xs) v) : ∃ a vs, v = .ref a ∧ Rd W.F a (.lst vs) ∧ Reps K W xs vs := by
  cases h with
  | lst h r => exact ⟨_, _, rfl, h, r⟩
theorem dg_tup {k : Nat} {t : RGs} {n : Nat} {vs : List Nat} (hc : G.B.cal = false) (h : DGs G es vs t) (hn : ∀ env : Env, (assignEach es env).length = n := by intro _; rfl) (hst : ∀ env : Env, (assignEach es env).findIdx? (·.1) = none := by intro _; rfl) : DG G (.Tuple es k pos) vs (gTup n t) := by
  refine ⟨fun {X en W σ H ρ S E pins s Q d v u} z r rv ⟨xs, e1, hl, q⟩ => ?_⟩
  subst e1
  obtain ⟨a, vs, rfl, hq, rr⟩ := r.tupI
  cases rv
  obtain ⟨its, rv, ht, hz⟩ := z.I.tuple (show SqT X.K H a vs by rw [z.hf.b.K]; exact sqT_le z.rs.ho.fh hq)
  refine assign_Tuple_tuple (z.hf.b.cm hc).2 ht (by simp [hn, ← hl, ← rr.len, rv.length]) (hst _) fun h' hx => ?_
  have I1 : Inv X pins σ H { s with heap := h' } := z.I.kept (t' := s.toks) fun b o e => hx b o (Nat.ne_of_lt (Heap.lt_size e)) e
  exact h.run ⟨z.hf, z.tk, z.rs, I1⟩ rr (by simpa using rv) q
/-- target = value -/
def dAsg (te : RE) (g : RG) : RS := fun D ρ S => te ρ S D.ex fun o S1 => ∃ d, o = .v d ∧ g d ρ S1 D.ex D.nx
theorem ds_asg {tg e : Expr} {g : RG} {vs : List Nat} (he : DE G e te) (hg : DG G tg vs g) (hs : ∀ env : Env, swapsWithSole [tg] e pos.line env = pure false := by intro _; rfl) (hw : ∀ env : Env, swappedStores [tg] e env = pure none := by intro _; rfl)
    (h1 : ∀ env : Env, (assignEach [tg] env).map (·.2) = [assign tg env] := by intro _; rfl) : DS G (.Assign [tg] e pos) (dAsg te g) := by
  refine ⟨fun {X en W σ H ρ S pins s D} z q => wpAny_Assign_stores (he.at z q fun v s1 x' H1 W1 o S1 z1 g1 r1 ro ⟨d, e1, q1⟩ => ?_) (hs _) (hw _)⟩
  subst e1
  rw [h1]
  exact thn (hg.run z1 ro r1 q1) fun _ s2 ⟨σ2, H2, W2, ρ2, S2, z2, ⟨l2, q2⟩, _⟩ => ⟨σ2, H2, z2.I, W2, ρ2, S2, z2.rs, g1.le.trans l2, q2⟩
/-- name = value -/
theorem ds_set {i : Nat} {pos' : Pos} (hi : G.N[i]? = some x) (hx : Loc G.sc x) (he : DE G e te) (hs : ∀ env : Env, swapsWith e (some (.Name x pos')) pos.line env = pure false := by intro _; rfl) (hf : Sto1 G x := by first | exact .inr rfl | exact .inl rfl) : DS G (.Assign [.Name x pos'] e pos) (dAsg te (gName i)) := by
  refine ⟨fun {X en W σ H ρ S pins s D} z q => wpAny_Assign_Name (he.at z q fun v s1 x' H1 W1 o S1 z1 g1 r1 ro ⟨d, e1, q1⟩ => ?_) (hs _)⟩
  subst e1
  obtain ⟨h1, h2, h3⟩ := z1.hf.sto hi hx hf
  exact store_ok z1.I z1.hf.nd h1 h2 r1 (fun s' I' => ⟨_, H1, I', W1, _, S1, z1.rs.set i (s := .sh d) rfl ⟨x', rfl, ro⟩, g1.le, q1⟩) h3
/-- what gives a new list -/
abbrev RF := List Sl → Sto → XD → (List D → Sto → Prop) → Prop
structure DF (G : Cf) (e : Expr) (t : RF) : Prop where
  run : ∀ {X en W σ H ρ S E pins s Q}, At G X en W σ H ρ S E pins s → t ρ S E Q → wpAny (model X.prog X.w) X.A (eval e X.env) (fun v s1 => ∃ a H1 W1 vs xs S1, Inv X pins σ H1 s1 ∧ v = .ref a ∧ H1 a = some (.lst vs) ∧ Reps G.B.K W1 xs vs ∧ Ho G.B.K W1 H1 S1 ∧ Go W H W1 H1 ∧ H a = none ∧ W1.F a = none ∧ (∀ i, i < W1.n → W1.m i ≠ a) ∧ Q xs S1) X.xe s
theorem Rs.fresh {K : PySem.W.Frag} {xs : List D} {vs : List V} {H' : Hp} {a : Addr} {i : Nat} {S' : Sto} (r : Rs K en W σ H ρ S) (h : Ho K W1 H' S') (g : Go W H W1 H') (ha : H' a = some (.lst vs)) (rr : Reps K W1 xs vs) (n : H a = none) (nf : W1.F a = none) (nm : ∀ i, i < W1.n → W1.m i ≠ a) :
    Rs K en W1 (σ.set i (some (.ref a))) H' (ρ.set i (.ol xs)) S' := by
  have r1 := r.after h g
  have ne : en.H a = none := by
    cases q : en.H a with
    | none => rfl
    | some u =>
      have := r1.go.kp a u q fun j hj c => by
        rw [← r1.go.le.m j hj] at c
        exact nm j (Nat.lt_of_lt_of_le hj r1.go.le.n) c
      have z : W1.n = W1.n := rfl
      have k := r.go.kp a u q fun j hj c => by
        rw [← r1.go.le.m j hj] at c
        exact nm j (Nat.lt_of_lt_of_le hj r1.go.le.n) c
      rw [n] at k
      cases k
  refine r1.setO i (s := .ol xs) ⟨a, vs, rfl, ha, rr, nf, ne, nm⟩ fun j t hj e1 o1 q1 => ?_
  have k := r.sl j t e1
  rw [q1] at k
  obtain ⟨b, u, e2, k2, _⟩ := k.own o1
  cases e2
  rw [n] at k2
  cases k2
def dAsgF (i : Nat) (tf : RF) : RS := fun D ρ S => tf ρ S D.ex fun xs S1 => D.nx (ρ.set i (.ol xs)) S1
theorem ds_setF {i : Nat} {pos' : Pos} {tf : RF} (hi : G.N[i]? = some x) (hx : Loc G.sc x) (he : DF G e tf) (hs : ∀ env : Env, swapsWith e (some (.Name x pos')) pos.line env = pure false := by intro _; rfl) (hf : Sto1 G x := by first | exact .inr rfl | exact .inl rfl) : DS G (.Assign [.Name x pos'] e pos) (dAsgF i tf) := by
  refine ⟨fun {X en W σ H ρ S pins s D} z q => wpAny_Assign_Name (thn (he.run z q) fun v s1 ⟨a, H1, W1, vs, xs, S1, I1, ev, ha, rr, h1, g1, n, nf, nm, q1⟩ => ?_) (hs _)⟩
  subst ev
  obtain ⟨k1, k2, k3⟩ := z.hf.sto hi hx hf
  exact store_ok I1 z.hf.nd k1 k2 (v := .ref a) rfl (fun s' I' => ⟨_, H1, I', W1, _, S1, z.rs.fresh h1 g1 ha rr n nf nm, g1.le, q1⟩) k3
/-- a new list as a value -/
abbrev dOfF (tf : RF) : RE := fun ρ S E Q => tf ρ S E fun xs S1 => Q (.v (.lst xs)) S1
theorem Ho.frz2 {K : PySem.W.Frag} {u : HO} {p : Addr} (h : Ho K W H S) (hu : H p = some u) (nf : W.F p = none) (nm : ∀ i, i < W.n → W.m i ≠ p) : Ho K (W.frz p u) H S :=
  ⟨h.n, fun b x z => by
    by_cases c : b = p
    · subst c
      rw [show (W.frz b u).F b = some u from upd_same] at z
      rw [hu]
      exact z
    · rw [show (W.frz p u).F b = W.F b from upd_ne c] at z
      exact h.fh b x z, h.inj, fun j hj => by
    show upd W.F p u (W.m j) = none
    rw [upd_ne (nm j hj)]
    exact h.mF j hj, h.there, fun j c z => (h.cel j c z).le (W.frz_le nf) fun x y => y⟩
theorem Go.frz2 {K : PySem.W.Frag} {u : HO} {p : Addr} {H' : Hp} (g : Go W H W1 H') (n : H p = none) (nf : W1.F p = none) : Go W H (W1.frz p u) H' :=
  ⟨g.le.trans (W1.frz_le nf), fun b x z => by
    by_cases c : b = p
    · subst c
      exact .inr n
    · rw [show (W1.frz p u).F b = W1.F b from upd_ne c] at z
      exact g.fn b x z, g.kp, g.mn⟩
theorem DF.de {tf : RF} (h : DF G e tf) : DE G e (dOfF tf) := by
  refine ⟨fun {X en W σ H ρ S E pins s Q} z q => thn (h.run z q) fun v s1 ⟨a, H1, W1, vs, xs, S1, I1, ev, ha, rr, h1, g1, n, nf, nm, q1⟩ => ?_⟩
  subst ev
  exact ⟨.ref a, H1, I1, rfl, W1.frz a (.lst vs), .v (.lst xs), S1, h1.frz2 ha nf nm, Go.frz2 (K := G.B.K) g1 n nf, .lst (.inl upd_same) (rr.le (W1.frz_le nf)), q1⟩
abbrev fLst (tA : RA) : RF := fun ρ S E Q => tA ρ S E fun os S1 => ∃ ds, Sol os ds ∧ sz ds.length ∧ Q ds S1
theorem df_lst (h : DA G es tA) : DF G (.List es pos) (fLst tA) := by
  refine ⟨fun {X en W σ H ρ S E pins s Q} z q => ?_⟩
  refine wpAny_List_spliced (h.at pos z q fun us s1 vs H1 W1 os S1 z1 g1 r1 ro ⟨ds, so, hz, q1⟩ => ?_)
  subst so
  have hr := Sol.rep ro
  have hl : vs.length ≤ sizeLine := by rw [hr.len]; exact hz
  refine ⟨by rw [← r1.length]; exact hl, ?_⟩
  have hf : H1 s1.heap.objs.size = none := z1.I.hok.fresh (Nat.le_refl _)
  have hH : H s1.heap.objs.size = none := by
    cases q : H s1.heap.objs.size with
    | none => rfl
    | some u =>
      by_cases y : ∃ i, i < W.n ∧ W.m i = s1.heap.objs.size
      · obtain ⟨i, hi, c⟩ := y
        rw [← g1.le.m i hi] at c
        obtain ⟨u2, e2⟩ := z1.rs.ho.there i (Nat.lt_of_lt_of_le hi g1.le.n)
        rw [c, hf] at e2
        cases e2
      · have := g1.kp _ u q fun i hi c => y ⟨i, hi, c⟩
        rw [hf] at this
        cases this
  have nm : ∀ i, i < W1.n → W1.m i ≠ s1.heap.objs.size := fun i hi c => by
    obtain ⟨u2, e2⟩ := z1.rs.ho.there i hi
    rw [c, hf] at e2
    cases e2
  refine ⟨s1.heap.objs.size, upd H1 s1.heap.objs.size (.lst vs), W1, vs, ds, S1, z1.I.laid (t' := s1.toks) (fun b u e => Heap.get?_push_of_some _ e) (Nat.le_refl _) ⟨hl, us, 0, r1, Heap.get?_push_size _ rfl⟩, rfl, upd_same, hr, ?_, ?_, hH, z1.rs.ho.nF hf, nm, q1⟩
  · exact ⟨z1.rs.ho.n, fun a o e => upd_keep hf (z1.rs.ho.fh a o e), z1.rs.ho.inj, z1.rs.ho.mF, fun i hi => let ⟨u, e⟩ := z1.rs.ho.there i hi; ⟨u, upd_keep hf e⟩, fun i c e => (z1.rs.ho.cel i c e).le .refl fun u q => upd_keep hf q⟩
  · exact ⟨g1.le, g1.fn, fun a o e n => upd_keep hf (g1.kp a o e n), g1.mn⟩
end
end Dt

set_option Elab.async false
set_option linter.all false
set_option maxRecDepth 100000
set_option maxHeartbeats 4000000
/-! DatE: stores to own lists, dicts, instances, to the store; pairs; loops; comprehensions -/
namespace Dt
open PySem PySem.Spec PyProof.Rows L2 My
/-! ### dicts -/
def valD (kvs : List (Key × D)) (k : Key) : Option D := (kvs.find? fun kv => decide (kv.1 = k)).map (·.2)
def putKD (kvs : List (Key × D)) (k : Key) (v : D) : List (Key × D) :=
  if (kvs.any fun kv => decide (kv.1 = k)) = true then kvs.map (fun kv => if kv.1 = k then (kv.1, v) else kv) else kvs ++ [(k, v)]
def dropKD (kvs : List (Key × D)) (k : Key) : List (Key × D) := kvs.filter fun kv => decide (kv.1 ≠ k)
/-- a key as a value -/
def kD : Key → D
  | .inl i => .int i
  | .inr x => .str x
section
variable {K : PySem.W.Frag} {W : Wd}
theorem RepK.val (k : Key) : ∀ {xs : List (Key × D)} {vs : List (Key × V)}, RepK K W xs vs → (valD xs k = none ∧ valV vs k = none) ∨ ∃ d v, valD xs k = some d ∧ valV vs k = some v ∧ Rep K W d v
  | _, _, .nil => .inl ⟨rfl, rfl⟩
  | _, _, .cons (k := j) (d := d) (v := v) (ds := ds) (vs := vs) h t => by
    by_cases e : j = k
    · refine .inr ⟨d, v, ?_, valV_pos e, h⟩
      simp [valD, List.find?_cons, e]
    · have e1 : valD ((j, d) :: ds) k = valD ds k := by simp [valD, List.find?_cons, e]
      rw [e1, valV_neg e]
      exact RepK.val k t
theorem RepK.any (k : Key) : ∀ {xs : List (Key × D)} {vs : List (Key × V)}, RepK K W xs vs → (xs.any fun kv => decide (kv.1 = k)) = (vs.any fun kv => decide (kv.1 = k))
  | _, _, .nil => rfl
  | _, _, .cons h t => by rw [List.any_cons, List.any_cons, RepK.any k t]
theorem RepK.map (k : Key) {d : D} {v : V} (r : Rep K W d v) : ∀ {xs : List (Key × D)} {vs : List (Key × V)}, RepK K W xs vs → RepK K W (xs.map fun kv => if kv.1 = k then (kv.1, d) else kv) (vs.map fun kv => if kv.1 = k then (kv.1, v) else kv)
  | _, _, .nil => .nil
  | _, _, .cons (k := j) h t => by
    rw [List.map_cons, List.map_cons]
    by_cases e : j = k
    · rw [if_pos e, if_pos e]
      exact .cons r (RepK.map k r t)
    · rw [if_neg e, if_neg e]
      exact .cons h (RepK.map k r t)
theorem RepK.app : ∀ {xs ys : List (Key × D)} {vs us : List (Key × V)}, RepK K W xs vs → RepK K W ys us → RepK K W (xs ++ ys) (vs ++ us)
  | _, _, _, _, .nil, h => h
  | _, _, _, _, .cons r t, h => .cons r (t.app h)
theorem RepK.put (k : Key) {d : D} {v : V} {xs : List (Key × D)} {vs : List (Key × V)} (h : RepK K W xs vs) (r : Rep K W d v) : RepK K W (putKD xs k d) (putK vs k v) := by
  unfold putKD putK
  rw [h.any k]
  by_cases e : (vs.any fun kv => decide (kv.1 = k)) = true
  · rw [if_pos e, if_pos e]
    exact h.map k r
  · rw [if_neg e, if_neg e]
    exact h.app (.cons r .nil)
theorem RepK.drop (k : Key) : ∀ {xs : List (Key × D)} {vs : List (Key × V)}, RepK K W xs vs → RepK K W (dropKD xs k) (dropK vs k)
  | _, _, .nil => .nil
  | _, _, .cons (k := j) (d := d) (v := v) (ds := ds) (vs := vs) h t => by
    have ih := RepK.drop k t
    unfold dropKD dropK at ih ⊢
    rw [List.filter_cons, List.filter_cons]
    by_cases e : j ≠ k
    · rw [if_pos (decide_eq_true e), if_pos (decide_eq_true e)]
      exact .cons h ih
    · rw [if_neg (by rw [decide_eq_false e]; exact Bool.false_ne_true), if_neg (by rw [decide_eq_false e]; exact Bool.false_ne_true)]
      exact ih
theorem rep_key {k : Key} {v : V} (h : Rep K W (kD k) v) : v = kV k := by
  cases k with
  | inl i => cases h; rfl
  | inr x => cases h; rfl
theorem RepF.put (f : Str) {d : D} {v : V} (r : Rep K W d v) : ∀ {xs : List (Str × D)} {vs : List (Str × V)}, RepF K W xs vs → RepF K W (putD f d xs) (putF f v vs)
  | _, _, .nil => .cons r .nil
  | _, _, .cons (k := j) (ds := ds) (vs := vs) h t => by
    unfold putD putF
    by_cases e : j = f
    · subst e
      rw [if_pos rfl, if_pos rfl]
      exact .cons r t
    · rw [if_neg e, if_neg e]
      exact .cons h (RepF.put f r t)
end

/-- the true reading of an expression at a context -/
def tE (X : Cx) (e : Expr) : TE := fun σ H Q => ∀ pins s, Inv X pins σ H s → wpAny (model X.prog X.w) X.A (eval e X.env) (EP X pins σ Q) X.xe s
theorem pcan (X : Cx) (e : Expr) : PE X e (tE X e) := ⟨fun pins s σ H Q I h => h pins s I⟩
section
variable {G : Cf} {X : Cx} {en : En} {W W0 W1 : Wd} {σ : L2.St} {H H1 : Hp} {ρ : List Sl} {S S1 : Sto} {pins : List (Addr × Obj)} {s s1 : Shared} {e a b c o : Expr} {es : List Expr} {t ta tb tc te to ti : RE} {tA tK : RA} {pos p apos : Pos} {x m : Str} {st : Stmt} {rest : List Stmt} {ts us : RS}
theorem At.re {E : XD} (z : At G X en W σ H ρ S E pins s) {pins' : List (Addr × Obj)} {s' : Shared} (I : Inv X pins' σ H s') : At G X en W σ H ρ S E pins' s' := ⟨z.hf, z.tk, z.rs, I⟩
/-! ### own lists -/
theorem At.own {E : XD} {i : Nat} {xs : List D} (z : At G X en W σ H ρ S E pins s) (e : ρ[i]? = some (.ol xs)) : ∃ a vs, σ[i]? = some (some (.ref a)) ∧ H a = some (.lst vs) ∧ Reps G.B.K W xs vs ∧ Own en W H a := z.rs.sl i _ e
theorem At.name {E : XD} {i : Nat} (z : At G X en W σ H ρ S E pins s) (hi : G.N[i]? = some x) (hv : Vis G.sc x) (hd : (x == ("__debug__" : Str)) = false) (hcd : (x == ("__classdict__" : Str)) = false) : PE X (.Name x p) (tVar i) := pe_var (by rw [z.hf.N]; exact hi) (by rw [z.hf.sc]; exact hv) hd hcd
/-- what stands in the own list at slot i changes -/
theorem At.sput {D : DEnds} {i : Nat} {xs ys : List Dt.D} {a : Addr} {us : List V} (z : At G X en W σ H ρ S D.ex pins s) (e : ρ[i]? = some (.ol xs)) (q : σ[i]? = some (some (.ref a))) (w : Own en W H a) (r : Reps G.B.K W ys us) (n : D.nx (ρ.set i (.ol ys)) S) (l : W0.Le W) : (ends G.B.K en W0 D).nx σ (upd H a (.lst us)) :=
  ⟨W, ρ.set i (.ol ys), S, z.rs.put e rfl rfl q w ⟨a, us, rfl, upd_same, r, w.f, w.e, w.m⟩, l, n⟩
def dApp (i : Nat) (te : RE) : RS := fun D ρ S => ∃ xs, ρ[i]? = some (.ol xs) ∧ xs.length < sizeLine ∧ te ρ S D.ex fun o S1 => ∃ d, o = .v d ∧ D.nx (ρ.set i (.ol (xs ++ [d]))) S1
theorem ds_app {i : Nat} {cpos : Pos} (hi : G.N[i]? = some x) (hv : Vis G.sc x) (he : DE G e te) (hd : (x == ("__debug__" : Str)) = false := by decide) (hcd : (x == ("__classdict__" : Str)) = false := by decide)
    (hfew : ∀ env : Env, ((backTo cpos (starEach [e] env)).all (fun x => !x.1) && (backToKw cpos (keywordEach [] env)).all (fun x => x.1.isSome)
      && decide ([e].length + ([] : List Keyword).length + (if ([] : List Keyword).isEmpty then 0 else 1) < 30)) = true := by intro _; rfl)
    (hline : (apos.endLine == cpos.line) = true := by rfl) (hs : ∀ env : Env, starEach [e] env = (false, eval e env) :: starEach [] env := by intro _; rfl) (hplain : ∀ env : Env, (backTo cpos (starEach [] env)).any (·.1) = false := by intro _; rfl)
    (hsw : ∀ env : Env, swapsWith (.Call (.Attribute (.Name x p) "append" apos) [e] [] cpos) none pos.line env = pure false := by intro _; rfl) :
    DS G (.Expr (.Call (.Attribute (.Name x p) "append" apos) [e] [] cpos) pos) (dApp i te) := by
  refine ⟨fun {X en W σ H ρ S pins s D} z ⟨xs, e1, hl, q⟩ => ?_⟩
  have P0 : PE X (.Name x p) (tVar i) := z.name hi hv hd hcd
  have PP := ps_expr (X := X) (pos := pos) (pe_bm (X := X) PySem.F.plainAttrs_list PySem.F.slot_list_append PySem.F.type_list_append mt_append P0 (pa_cons (pcan X e) pa_nil (hs _)) rfl (hfew _) hline (hs _) (hplain _)) (hsw _)
  obtain ⟨a, vs, q0, ha, rr, w⟩ := z.own e1
  refine PP.run pins s σ H _ z.I ⟨.ref a, q0, .inl ⟨rfl, vs, SqL.of ha⟩, fun pins' s' I => ?_⟩
  refine he.at (z.re I) q fun v s2 x' H1 W1 o S1 z1 g1 r1 ro ⟨d, eo, q1⟩ => ?_
  subst eo
  obtain ⟨a', vs', q0', ha', rr', w'⟩ := z1.own e1
  rw [q0] at q0'
  cases q0'
  refine ⟨x', H1, z1.I, r1, a, vs', x', rfl, rfl, ha', by rw [rr'.len]; exact hl, ?_⟩
  exact At.sput z1 e1 q0 w' (rr'.app (.cons ro .nil)) q1 g1.le
/-! ### pairs of names -/
def dPar (i j : Nat) (tA : RA) : RS := fun D ρ S => tA ρ S D.ex fun os S1 => ∃ x y, os = [.v x, .v y] ∧ D.nx ((ρ.set i (.sh x)).set j (.sh y)) S1
/-- an argument list's true reading -/
def tAr (X : Cx) (es : List Expr) : TA := fun σ H Q => ∀ pos pins s, Inv X pins σ H s → wpAny (model X.prog X.w) X.A (spliced (backTo pos (starEach es X.env))) (AP X pins σ Q) X.xe s
theorem acan (X : Cx) (es : List Expr) : PA X es (tAr X es) := ⟨fun pos pins s σ H Q I h => h pos pins s I⟩
theorem ds_par {i j : Nat} {y : Str} {px py pt : Pos} {kt k2 pt2} (hc : G.B.cal = false) (hi : G.N[i]? = some x) (hj : G.N[j]? = some y) (hij : i ≠ j) (hx : G.sc.names.lookup x = some .local) (hy : G.sc.names.lookup y = some .local) (ha : DA G [a, b] tA)
    (hw : ∀ env : Env, env.scope = G.sc → swappedStores [.Tuple [.Name x px, .Name y py] kt pt] (.Tuple [a, b] k2 pt2) env = pure (some [x, y]))
    (hs : ∀ env : Env, swapsWithSole [.Tuple [.Name x px, .Name y py] kt pt] (.Tuple [a, b] k2 pt2) pos.line env = pure false := by intro _; rfl) :
    DS G (.Assign [.Tuple [.Name x px, .Name y py] kt pt] (.Tuple [a, b] k2 pt2) pos) (dPar i j tA) := by
  refine ⟨fun {X en W σ H ρ S pins s D} z q => ?_⟩
  have PP := ps_par (X := X) (pos := pos) (px := px) (py := py) (pt := pt) (kt := kt) (k2 := k2) (pt2 := pt2) (z.hf.b.cm hc).1 z.hf.nd (by rw [z.hf.N]; exact hi) (by rw [z.hf.N]; exact hj) hij (by rw [z.hf.sc]; exact hx) (by rw [z.hf.sc]; exact hy) (acan X [a, b]) (hw _ z.hf.sc) (hs _)
  refine PP.run pins s σ H _ z.I fun pos' pins' s' I => ?_
  refine ha.at pos' (z.re I) q fun us s2 vs H1 W1 os S1 z1 g1 r1 ro ⟨u, v, eo, q1⟩ => ?_
  subst eo
  cases ro with
  | cons ru ro =>
    cases ro with
    | cons rv ro =>
      cases ro
      refine ⟨_, H1, z1.I, r1, _, _, rfl, W1, _, S1, (z1.rs.set i (s := .sh u) rfl ⟨_, rfl, ru⟩).set j (s := .sh v) rfl ⟨_, rfl, rv⟩, g1.le, q1⟩
def dPar3 (i j l : Nat) (tA : RA) : RS := fun D ρ S => tA ρ S D.ex fun os S1 => ∃ x y z, os = [.v x, .v y, .v z] ∧ D.nx (((ρ.set i (.sh x)).set j (.sh y)).set l (.sh z)) S1
def tBr (X : Cx) (st : List Stmt) : TS := fun D σ H => ∀ pins s, Inv X pins σ H s → wpAny (model X.prog X.w) X.A (execs st X.env) (SP X pins D) X.xe s
theorem bcan (X : Cx) (st : List Stmt) : PSs X st (tBr X st) := ⟨fun pins s σ H Q I h => h pins s I⟩
theorem sp_imp {D D' : Ends} {f : Flow} {s' : Shared} (h1 : ∀ σ H, D.nx σ H → D'.nx σ H) (h2 : ∀ v H, D.rt v H → D'.rt v H) (h3 : ∀ σ H, D.bk σ H → D'.bk σ H) (h4 : ∀ σ H, D.ct σ H → D'.ct σ H) (h : SP X pins D f s') : SP X pins D' f s' := by
  cases f with
  | next => exact let ⟨σ, H, I, q⟩ := h; ⟨σ, H, I, h1 _ _ q⟩
  | brk => exact let ⟨σ, H, I, q⟩ := h; ⟨σ, H, I, h3 _ _ q⟩
  | cont => exact let ⟨σ, H, I, q⟩ := h; ⟨σ, H, I, h4 _ _ q⟩
  | ret v => exact let ⟨v, σ, H, I, r, q⟩ := h; ⟨v, σ, H, I, r, h2 _ _ q⟩
/-! ### what a loop walks -/
/-- J walks the values xs -/
structure Wk (K : PySem.W.Frag) (W : Wd) (J : It) (xs : List D) : Prop where
  go : ∀ (i : Nat) W' H' S', W.Le W' → Ho K W' H' S' → i < xs.length → J.go i H'
  yl : ∀ (i : Nat) W' H' S' x H2, W.Le W' → Ho K W' H' S' → i < xs.length → J.yld i H' x H2 → ∃ d W2, xs[i]? = some d ∧ Ho K W2 H2 S' ∧ Go W' H' W2 H2 ∧ Rep K W2 d x
  st : ∀ (i : Nat) W' H' S', W.Le W' → Ho K W' H' S' → xs.length ≤ i → J.stop i H'
abbrev RI := List Sl → Sto → XD → (List D → Sto → Prop) → Prop
structure DI (G : Cf) (tg iter : Expr) (t : RI) : Prop where
  run : ∀ {X en W σ H ρ S E pins s Q}, At G X en W σ H ρ S E pins s → t ρ S E Q →
    wpAny (model X.prog X.w) X.A (eval iter X.env) (fun v s1 => wpAny (model X.prog X.w) X.A (pyIter v) (PIE X pins σ tg fun J H' => ∃ W' xs S', Ho G.B.K W' H' S' ∧ Go W H W' H' ∧ Wk G.B.K W' J xs ∧ Q xs S') X.xe s1) X.xe s
theorem Wk.list {K : PySem.W.Frag} {a : Addr} {xs : List D} {vs : List V} (h : SqL K W.F a vs) (r : Reps K W xs vs) : Wk K W (Itl K a) xs where
  go := fun i W' H' S' l ho hi => by
    have hv : i < vs.length := by rw [r.len]; exact hi
    exact ⟨vs, vs[i], sqL_le ho.fh (sqL_le l.f h), List.getElem?_eq_getElem hv⟩
  yl := fun i W' H' S' x H2 l ho hi y => by
    obtain ⟨e, y⟩ := y
    subst e
    obtain ⟨d, e, rd⟩ := r.get (y vs (sqL_le ho.fh (sqL_le l.f h)))
    exact ⟨d, W', e, ho, .refl, rd.le l⟩
  st := fun i W' H' S' l ho hi => ⟨vs, sqL_le ho.fh (sqL_le l.f h), by rw [r.len]; exact hi⟩
theorem Wk.tup {K : PySem.W.Frag} {a : Addr} {xs : List D} {vs : List V} (h : SqT K W.F a vs) (r : Reps K W xs vs) : Wk K W (Itt K a) xs where
  go := fun i W' H' S' l ho hi => by
    have hv : i < vs.length := by rw [r.len]; exact hi
    exact ⟨vs, vs[i], sqT_le ho.fh (sqT_le l.f h), List.getElem?_eq_getElem hv⟩
  yl := fun i W' H' S' x H2 l ho hi y => by
    obtain ⟨e, y⟩ := y
    subst e
    obtain ⟨d, e, rd⟩ := r.get (y vs (sqT_le ho.fh (sqT_le l.f h)))
    exact ⟨d, W', e, ho, .refl, rd.le l⟩
  st := fun i W' H' S' l ho hi => ⟨vs, sqT_le ho.fh (sqT_le l.f h), by rw [r.len]; exact hi⟩
/-- lo, lo + 1, .. -/
def rngD (lo : Int) (n : Nat) : List D := (List.range n).map fun i => .int (lo + (i : Nat))
theorem rngD_len (lo : Int) (n : Nat) : (rngD lo n).length = n := by rw [rngD, List.length_map, List.length_range]
theorem rngD_get {lo : Int} {n i : Nat} (h : i < n) : (rngD lo n)[i]? = some (.int (lo + i)) := by
  rw [rngD, List.getElem?_map, List.getElem?_range h] <;> rfl
theorem Wk.rng {K : PySem.W.Frag} {lo : Int} {n : Nat} : Wk K W (Itr lo n) (rngD lo n) where
  go := fun i W' H' S' l ho hi => by rw [rngD_len] at hi; exact hi
  yl := fun i W' H' S' x H2 l ho hi y => by
    rw [rngD_len] at hi
    obtain ⟨e, ex⟩ := y
    subst e ex
    exact ⟨_, W', rngD_get hi, ho, .refl, .int _⟩
  st := fun i W' H' S' l ho hi => by rw [rngD_len] at hi; exact hi
end
end Dt

set_option Elab.async false
set_option linter.all false
set_option maxRecDepth 100000
set_option maxHeartbeats 4000000
/-! DatF: what is walked; for loops; list comprehensions -/
namespace Dt
open PySem PySem.Spec PyProof.Rows L2 My
/-- the signs of a text -/
def sgnD (x : Str) : List D := x.cps.toList.map fun c => .str ⟨#[c]⟩
theorem Wk.str {K : PySem.W.Frag} {W : Wd} {x : Str} : Wk K W (Its x) (sgnD x) where
  go := fun i W' H' S' l ho hi => by
    rw [sgnD, List.length_map, Array.length_toList] at hi
    exact hi
  yl := fun i W' H' S' y H2 l ho hi q => by
    obtain ⟨e, c, e2, ev⟩ := q
    subst e ev
    refine ⟨.str ⟨#[c]⟩, W', ?_, ho, .refl, .str _⟩
    rw [sgnD, List.getElem?_map, Array.getElem?_toList, e2] <;> rfl
  st := fun i W' H' S' l ho hi => by
    rw [sgnD, List.length_map, Array.length_toList] at hi
    exact hi
/-- what may be walked: a list, a tuple, a text -/
def Walk : O → List D → Prop
  | .v (.lst xs), ys => ys = xs
  | .v (.tup xs), ys => ys = xs
  | .v (.str x), ys => ys = sgnD x
  | _, _ => False
section
variable {G : Cf} {X : Cx} {en : En} {W W1 : Wd} {σ : L2.St} {H H1 : Hp} {ρ : List Sl} {S S1 : Sto} {pins : List (Addr × Obj)} {s s1 : Shared} {e a b c o tg : Expr} {es : List Expr} {t ta tb tc te to ti : RE} {tA tK : RA} {pos p apos : Pos} {x m : Str} {st : Stmt} {rest : List Stmt} {ts us : RS}
abbrev iVal (te : RE) : RI := fun ρ S E Q => te ρ S E fun o S1 => ∃ xs, Walk o xs ∧ Q xs S1
theorem di_val (he : DE G e te) : DI G tg e (iVal te) := by
  refine ⟨fun {X en W σ H ρ S E pins s Q} z q => he.at z q fun v s1 x' H1 W1 o S1 z1 g1 r1 ro ⟨xs, wk, q1⟩ => ?_⟩
  have fr : ∀ b, s1.heap.objs.size ≤ b → FpOk X pins H1 b := fun b hb => z1.I.fpOk hb (z1.I.hok.fresh hb)
  cases o with
  | v d =>
    cases d with
    | lst ys =>
      obtain rfl : xs = ys := wk
      obtain ⟨a, vs, rfl, hq, rr⟩ := Rep.lstI ro
      cases r1
      obtain ⟨its, rv, p, hz⟩ := z1.I.list (show SqL X.K H1 a vs by rw [z1.hf.b.K]; exact .inl (rd_le z1.rs.ho.fh hq))
      refine wpAny_pyIter_list p.isList ?_
      refine ⟨s1.heap.objs.size, [s1.heap.objs.size], _, _, H1, rfl, z1.I.kept (t' := s1.toks) fun b o e => Heap.get?_push_of_some _ e, turn_list a _, ⟨_, Heap.get?_push_size _ rfl, rfl, rfl⟩, fun b hb => fr b (Nat.le_of_eq (List.mem_singleton.mp hb).symm), W1, xs, S1, z1.rs.ho, g1, ?_, q1⟩
      rw [z1.hf.b.K]
      exact .list (.inl hq) rr
    | tup ys =>
      obtain rfl : xs = ys := wk
      obtain ⟨a, vs, rfl, hq, rr⟩ := Rep.tupI ro
      cases r1
      obtain ⟨its, rv, p, hz⟩ := z1.I.tuple (show SqT X.K H1 a vs by rw [z1.hf.b.K]; exact sqT_le z1.rs.ho.fh hq)
      refine wpAny_pyIter_tuple (show s1.heap.IsTuple a its.toArray from p) ?_
      refine ⟨s1.heap.objs.size, [s1.heap.objs.size], _, _, H1, rfl, z1.I.kept (t' := s1.toks) fun b o e => Heap.get?_push_of_some _ e, turn_tuple a _, ⟨_, Heap.get?_push_size _ rfl, rfl, rfl⟩, fun b hb => fr b (Nat.le_of_eq (List.mem_singleton.mp hb).symm), W1, xs, S1, z1.rs.ho, g1, ?_, q1⟩
      rw [z1.hf.b.K]
      exact .tup hq rr
    | str x =>
      obtain rfl : xs = sgnD x := wk
      cases ro
      obtain ⟨t, rfl⟩ := r1
      cases ha : x.cps.all (· < 128)
      · exact wpAny_pyIter_wide ha (pi_one (tk := s1.toks) z1.I _ (turn_str _ x t "str_iterator" (.inr rfl)) ⟨_, Heap.get?_push_size _ rfl, rfl, rfl⟩ ⟨W1, _, S1, z1.rs.ho, g1, .str, q1⟩)
      · exact wpAny_pyIter_ascii ha (pi_one (tk := s1.toks) z1.I _ (turn_str _ x t "str_ascii_iterator" (.inl rfl)) ⟨_, Heap.get?_push_size _ rfl, rfl, rfl⟩ ⟨W1, _, S1, z1.rs.ho, g1, .str, q1⟩)
    | _ => exact wk.elim
  | _ => exact wk.elim
theorem pi_imp {R R' : It → Hp → Prop} {itv : Value} {s2 : Shared} (h : ∀ J H, R J H → R' J H) : PIE X pins σ tg R itv s2 → PIE X pins σ tg R' itv s2 := fun ⟨it, fp, tn, J, H', e, I, T, st, f, q⟩ => ⟨it, fp, tn, J, H', e, I, T, st, f, h _ _ q⟩
/-- range(n), range(a, b), range(a, b, c) -/
abbrev iRng1 (tA : RA) : RI := fun ρ S E Q => tA ρ S E fun os S1 => ∃ (n : Int) (xs : List D), os = [.v (.int n)] ∧ -(2 ^ 62) ≤ n ∧ n < 2 ^ 62 ∧ xs = rngD 0 n.toNat ∧ Q xs S1
abbrev iRng2 (tA : RA) : RI := fun ρ S E Q => tA ρ S E fun os S1 => ∃ (i j : Int) (xs : List D), os = [.v (.int i), .v (.int j)] ∧ (-(2 ^ 62) ≤ i ∧ i < 2 ^ 62 ∧ -(2 ^ 62) ≤ j ∧ j < 2 ^ 62) ∧ xs = rngD i (j - i).toNat ∧ Q xs S1
theorem di_range1 (hg : Glb G "range") (hm : G.B.mg "range" = none) (ha : DA G [a] tA) (hs : ∀ env : Env, starEach [a] env = [(false, eval a env)] := by intro _; rfl) : DI G tg (.Call (.Name "range" p) [a] [] pos) (iRng1 tA) := by
  refine ⟨fun {X en W σ H ρ S E pins s Q} z q => ?_⟩
  refine (pi_range1 (X := X) (gl_of z.hf.sc hg) (by rw [z.hf.b.mg]; exact hm) (acan X [a]) (hs _)).run pins s σ H _ z.I fun pos' pins' s' I => ?_
  refine ha.at pos' (z.re I) q fun us s2 vs H1 W1 os S1 z1 g1 r1 ro ⟨n, xs, eo, h1, h2, ex, q1⟩ => ?_
  subst eo ex
  cases ro with
  | cons r ro =>
    cases ro
    cases r
    exact ⟨_, H1, z1.I, r1, n, rfl, h1, h2, W1, _, S1, z1.rs.ho, g1, .rng, q1⟩
/-! ### for -/
/-- the turns that are left -/
def Loop (g : RG) (tb : RS) (D : DEnds) : List Dt.D → List Sl → Sto → Prop
  | [], ρ, S => D.nx ρ S
  | x :: xs, ρ, S => g x ρ S D.ex fun ρ' S' => tb ⟨Loop g tb D xs, D.rt, D.nx, Loop g tb D xs, D.ex⟩ ρ' S'
def dFor (ti : RI) (g : RG) (tb : RS) : RS := fun D ρ S => ti ρ S D.ex fun xs S1 => Loop g tb D xs ρ S1
/-- a target's, a walk's true reading -/
def tGr (X : Cx) (tg : Expr) : TG := fun v σ H Q => ∀ pins s u, Inv X pins σ H s → RelV v u → wpAny (model X.prog X.w) X.A (assign tg X.env u) (fun _ s' => ∃ σ' H', Inv X pins σ' H' s' ∧ Q σ' H') X.xe s
theorem gcan (X : Cx) (tg : Expr) : PG X tg (tGr X tg) := ⟨fun pins s σ H v u Q I r h => h pins s u I r⟩
def tIr (X : Cx) (tg iter : Expr) : TI := fun σ H R => ∀ pins s, Inv X pins σ H s → wpAny (model X.prog X.w) X.A (eval iter X.env) (fun v s1 => wpAny (model X.prog X.w) X.A (pyIter v) (PIE X pins σ tg R) X.xe s1) X.xe s
theorem ican (X : Cx) (tg iter : Expr) : PI X tg iter (tIr X tg iter) := ⟨fun pins s σ H R I h => h pins s I⟩
theorem ds_for {iter : Expr} {body : List Stmt} {ti : RI} {g : RG} {tb : RS} {vs : List Nat} (hp : G.lp = true) (hc : G.B.cal = false) (hi : DI G tg iter ti) (hg : DG G tg vs g) (hb : DSs G body tb)
    (hs : ∀ (env : Env) x, foldedSetIterable iter env x = pure x := by intro _ _; rfl) : DS G (.For tg iter body [] pos) (dFor ti g tb) := by
  refine ⟨fun {X en W σ H ρ S pins s D} z q => ?_⟩
  refine (ps_for (X := X) (pos := pos) (z.hf.po hp) (z.hf.b.cm hc).1 (ican X tg iter) (gcan X tg) (bcan X body) (hs _)).run pins s σ H _ z.I fun pins' s' I => ?_
  refine thn (hi.run (z.re I) q) fun v s1 h1 => thn h1 fun itv s2 h2 => ?_
  refine pi_imp (fun J H1 ⟨W1, xs, S1, h1, g1, wk, q1⟩ => ?_) h2
  have r1 := z.rs.after h1 g1
  refine ⟨fun i m σ' H' => m = xs.length - i ∧ i ≤ xs.length ∧ ∃ W' ρ' S', Rs G.B.K en W' σ' H' ρ' S' ∧ W1.Le W' ∧ Loop g tb D (xs.drop i) ρ' S', ⟨xs.length, by simp, Nat.zero_le _, W1, ρ, S1, r1, .refl, by simpa using q1⟩, ?_⟩
  rintro i m σ2 H2 ⟨rfl, hi, W2, ρ2, S2, r2, l2, q2⟩
  by_cases hlt : i < xs.length
  · refine .inr ⟨wk.go i W2 H2 S2 l2 r2.ho hlt, fun σ3 H3 => ∃ W3 ρ3 S3, Rs G.B.K en W3 σ3 H3 ρ3 S3 ∧ W1.Le W3 ∧ Loop g tb D (xs.drop (i + 1)) ρ3 S3, fun σ3 H3 ⟨W3, ρ3, S3, r3, l3, q3⟩ => ⟨_, by omega, rfl, hlt, W3, ρ3, S3, r3, l3, q3⟩, fun x H3 y => ?_⟩
    obtain ⟨d, W3, ed, h3, g3, rd⟩ := wk.yl i W2 H2 S2 x H3 l2 r2.ho hlt y
    rw [List.drop_eq_getElem_cons hlt] at q2
    have e2 : xs[i] = d := by
      rw [List.getElem?_eq_getElem hlt] at ed
      exact Option.some.inj ed
    rw [e2] at q2
    intro pins3 s3 u I3 ru
    have z3 : At G X en W3 σ2 H3 ρ2 S2 D.ex pins3 s3 := ⟨z.hf, tk_up (g1.le.trans (l2.trans g3.le)) z.tk, r2.after h3 g3, I3⟩
    refine thn (hg.run z3 rd ru q2) fun _ s4 ⟨σ4, H4, W4, ρ4, S4, z4, ⟨l4, q4⟩, _⟩ => ⟨σ4, H4, z4.I, fun pins5 s5 I5 => ?_⟩
    have l5 : W1.Le W4 := (l2.trans g3.le).trans l4
    refine thn (hb.run (D := ⟨Loop g tb D (xs.drop (i + 1)), D.rt, D.nx, Loop g tb D (xs.drop (i + 1)), D.ex⟩) (z4.re I5) q4) fun fl s6 q6 => ?_
    cases fl with
    | next => exact let ⟨σ6, H6, I6, W6, ρ6, S6, r6, l6, k6⟩ := q6; ⟨σ6, H6, I6, W6, ρ6, S6, r6, l5.trans l6, k6⟩
    | cont => exact let ⟨σ6, H6, I6, W6, ρ6, S6, r6, l6, k6⟩ := q6; ⟨σ6, H6, I6, W6, ρ6, S6, r6, l5.trans l6, k6⟩
    | brk => exact let ⟨σ6, H6, I6, W6, ρ6, S6, r6, l6, k6⟩ := q6; ⟨σ6, H6, I6, W6, ρ6, S6, r6, g1.le.trans (l5.trans l6), k6⟩
    | ret v => exact let ⟨v, σ6, H6, I6, r0, W6, σ', ρ6, d, S6, r6, l6, rp, k6⟩ := q6; ⟨v, σ6, H6, I6, r0, W6, σ', ρ6, d, S6, r6, g1.le.trans (l5.trans l6), rp, k6⟩
  · have e : i = xs.length := by omega
    subst e
    rw [List.drop_length] at q2
    exact .inl ⟨wk.st _ W2 H2 S2 l2 r2.ho (Nat.le_refl _), W2, ρ2, S2, r2, g1.le.trans l2, q2⟩
/-! ### list comprehensions -/
def wipeS (ρ : List Sl) : List Nat → List Sl
  | [] => ρ
  | v :: vs => (wipeS ρ vs).set v .un
theorem Rs.wipe {K : PySem.W.Frag} (r : Rs K en W σ H ρ S) : ∀ vs : List Nat, Rs K en W (wipe σ vs) H (wipeS ρ vs) S
  | [] => r
  | v :: vs => (r.wipe vs).set v (s := .un) rfl trivial
theorem wipe_eq {σ' : L2.St} (ws : List Nat) (hl : σ'.length = σ.length) (h : ∀ j, j ∉ ws → σ'[j]? = σ[j]?) : L2.wipe σ' ws = L2.wipe σ ws := by
  refine List.ext_getElem? fun j => ?_
  by_cases hj : j ∈ ws
  · have key : ∀ (τ : L2.St) (vs : List Nat), j ∈ vs → (L2.wipe τ vs)[j]? = if j < τ.length then some none else none := fun τ vs => by
      induction vs with
      | nil => intro c; cases c
      | cons v vs ih =>
        intro c
        show ((L2.wipe τ vs).set v none)[j]? = _
        by_cases z : v = j
        · subst z
          rw [List.getElem?_set]
          simp [wipe_length]
        · rw [List.getElem?_set_ne z]
          exact ih ((List.mem_cons.mp c).resolve_left fun y => z y.symm)
    rw [key σ' ws hj, key σ ws hj, hl]
  · rw [wipe_out hj, wipe_out hj, h j hj]
theorem Ho.own_put {K : PySem.W.Frag} {a : Addr} {u : HO} (h : Ho K W H S) (w : Own en W H a) : Ho K W (upd H a u) S :=
  ⟨h.n, fun b x z => by
    rw [upd_ne fun y => by
      rw [y, w.f] at z
      cases z]
    exact h.fh b x z, h.inj, h.mF, fun j hj => by
    rw [upd_ne (w.m j hj)]
    exact h.there j hj, fun j c z => by
    have hj : j < W.n := by
      rw [h.n]
      exact (List.getElem?_eq_some_iff.mp z).1
    exact (h.cel j c z).le .refl fun x y => by rw [upd_ne (w.m j hj)]; exact y⟩
theorem Go.own_put {a : Addr} {u : HO} (g : Go W H W1 H1) (n : H a = none) : Go W H W1 (upd H1 a u) :=
  ⟨g.le, g.fn, fun b x z k => by
    rw [upd_ne fun y => by
      rw [y, n] at z
      cases z]
    exact g.kp b x z k, g.mn⟩
def noE : XD := fun _ _ _ _ => False
theorem takes_no {K : PySem.W.Frag} : Takes X (XT K en W noE) := fun u s' ⟨a, B, sI, pins, σ, H, cls, d, e, I, nb, up, sky, na, os, ag, C, fs, W, ρ, S, x, r, l, q⟩ => q.elim
/-- the turns of a comprehension that are left; acc: what is gathered -/
def Lc (g : RG) (tt : RT) (te : RE) (ρ : List Sl) : List D → List D → Sto → (List D → Sto → Prop) → Prop
  | [], acc, S, Q => Q acc S
  | x :: xs, acc, S, Q => g x ρ S noE fun ρ' S' => tt ρ' S' noE fun c S2 => if c = true then te ρ' S2 noE fun o S3 => ∃ d, o = .v d ∧ acc.length < sizeLine ∧ Lc g tt te ρ xs (acc ++ [d]) S3 Q else Lc g tt te ρ xs acc S2 Q
abbrev fLc (ti : RI) (g : RG) (tt : RT) (te : RE) (ws : List Nat) : RF := fun ρ S E Q => ti ρ S E fun xs S1 => Lc g tt te (wipeS ρ ws) xs [] S1 Q
structure DTs (G : Cf) (ifs : List Expr) (t : RT) : Prop where
  run : ∀ {X en W σ H ρ S E pins s Q}, At G X en W σ H ρ S E pins s → t ρ S E Q → wpAny (model X.prog X.w) X.A (forIn ifs true fun c r => if r = true then do let ok ← isTrue c X.env (eval c X.env); pure (ForInStep.yield ok) else pure (ForInStep.yield r)) (TP X pins σ (NxB G.B.K W H Q)) X.xe s
abbrev dYes : RT := fun _ S _ Q => Q true S
theorem dts_nil : DTs G [] dYes := ⟨fun {X en W σ H ρ S E pins s Q} z q => wpAny_tests_nil ⟨H, z.I, W, S, z.rs.ho, .refl, q⟩⟩
theorem dts_one {c : Expr} {t : RT} (h : DT G c t) : DTs G [c] t := ⟨fun z q => wpAny_tests_one (h.run z q)⟩
/-- the block's settings -/
abbrev Cf.blk (G : Cf) (scope : Scope) : Cf := { G with sc := relS scope G.sc, lp := true, fn := fun x => scope.names.lookup x == some .cell, tr := false, ax := fun _ _ => True, axt := fun _ _ _ _ _ => trivial }
theorem Fits.blk (f : Fits G X en) (hc : G.B.cal = false) {scope : Scope} {cl : List (Str × Addr)} {C : Addr} {s0 : Shared} {H0 : Hp} {fp : List Addr} : Fits (G.blk scope) (X.blk s0 H0 scope (compEnvC scope cl C X.env) fp) en :=
  ⟨⟨f.b.P, f.b.w, f.b.K, f.b.mg, f.b.base, f.b.rm, f.b.gd, f.b.cm, (fun p e => by
    rw [f.b.nq hc] at e
    cases e), f.b.nq⟩, f.N, (by
    show relS scope X.env.scope = relS scope G.sc
    rw [f.sc]), f.nd, fun x h => h, fun _ => PassesOwn.never, fun h => Bool.noConfusion h, trivial⟩
/-- a block's true readings -/
def tGb (X : Cx) (scope : Scope) (tg : Expr) : TG := fun v σ H Q => ∀ (s : Shared) (H0 : Hp) (C : Addr) (cl : List (Str × Addr)) (fp : List Addr), tGr (X.blk s H0 scope (compEnvC scope cl C X.env) fp) tg v σ H Q
def tEb (X : Cx) (scope : Scope) (e : Expr) : TE := fun σ H Q => ∀ (s : Shared) (H0 : Hp) (C : Addr) (cl : List (Str × Addr)) (fp : List Addr), tE (X.blk s H0 scope (compEnvC scope cl C X.env) fp) e σ H Q
def tTb (X : Cx) (scope : Scope) (ifs : List Expr) : TT := fun σ H Q => ∀ (s : Shared) (H0 : Hp) (C : Addr) (cl : List (Str × Addr)) (fp : List Addr) pins s', Inv (X.blk s H0 scope (compEnvC scope cl C X.env) fp) pins σ H s' →
  wpAny (model X.prog X.w) X.A (forIn ifs true fun c r => if r = true then do let ok ← isTrue c (compEnvC scope cl C X.env) (eval c (compEnvC scope cl C X.env)); pure (ForInStep.yield ok) else pure (ForInStep.yield r)) (TP (X.blk s H0 scope (compEnvC scope cl C X.env) fp) pins σ Q) (fun _ _ => False) s'
theorem lc_read {iter elt : Expr} {ifs : List Expr} {scope : Scope} {own : List (Str × Nat)} {ws : List Nat} {ti : RI} {g : RG} {tt : RT} {te : RE} {E : XD} {Q : List D → Sto → Prop} (hc : G.B.cal = false) (hw : ∀ j, j ∈ ws → j ∈ own.map (·.2)) (hi : DI G tg iter ti) (hg : DG (G.blk scope) tg ws g) (ht : DTs (G.blk scope) ifs tt) (he : DE (G.blk scope) elt te) (z : At G X en W σ H ρ S E pins s)
    (q : fLc ti g tt te (own.map (·.2)) ρ S E Q) : tLc (tIr X tg iter) (tGb X scope tg) (tTb X scope ifs) (tEb X scope elt) (own.map (·.2)) σ H
      (fun v H1 => ∃ a W1 vs xs S1, v = .ref a ∧ H1 a = some (.lst vs) ∧ Reps G.B.K W1 xs vs ∧ Ho G.B.K W1 H1 S1 ∧ Go W H W1 H1 ∧ H a = none ∧ W1.F a = none ∧ (∀ i, i < W1.n → W1.m i ≠ a) ∧ Q xs S1) := by
  intro pins' s' I
  refine thn (hi.run (z.re I) q) fun v s1 h1 => thn h1 fun itv s2 h2 => ?_
  refine pi_imp (fun J H1 ⟨W1, xs, S1, h1, g1, wk, q1⟩ L hL => ?_) h2
  have r1 := (z.rs.after h1 g1).wipe (own.map (·.2))
  have hL0 : H L = none := by
    cases y : H L with
    | none => rfl
    | some u =>
      by_cases c : ∃ i, i < W.n ∧ W.m i = L
      · obtain ⟨i, hi, c⟩ := c
        rw [← g1.le.m i hi] at c
        obtain ⟨u2, e2⟩ := h1.there i (Nat.lt_of_lt_of_le hi g1.le.n)
        rw [c, hL] at e2
        cases e2
      · have := g1.kp L u y fun i hi k => c ⟨i, hi, k⟩
        rw [hL] at this
        cases this
  have nm : ∀ i, i < W1.n → W1.m i ≠ L := fun i hi c => by
    obtain ⟨u2, e2⟩ := h1.there i hi
    rw [c, hL] at e2
    cases e2
  have nE : en.H L = none := by
    have g0 := z.rs.go.trans g1 h1
    cases y : en.H L with
    | none => rfl
    | some u =>
      by_cases c : ∃ i, i < en.W.n ∧ en.W.m i = L
      · obtain ⟨i, hi, c⟩ := c
        rw [← g0.le.m i hi] at c
        exact (nm i (Nat.lt_of_lt_of_le hi g0.le.n) c).elim
      · have := g0.kp L u y fun i hi k => c ⟨i, hi, k⟩
        rw [hL] at this
        cases this
  have w0 : Own en W1 (upd H1 L (.lst [])) L := ⟨h1.nF hL, nE, nm⟩
  have w1 : Own en W1 H1 L := ⟨h1.nF hL, nE, nm⟩
  refine ⟨fun i m H' => m = xs.length - i ∧ i ≤ xs.length ∧ ∃ W' S' acc vs, H' L = some (.lst vs) ∧ Reps G.B.K W' acc vs ∧ Ho G.B.K W' H' S' ∧ Go W1 H1 W' H' ∧ Own en W' H' L ∧ Lc g tt te (wipeS ρ (own.map (·.2))) (xs.drop i) acc S' Q,
    ⟨xs.length, by simp, Nat.zero_le _, W1, S1, [], [], upd_same, .nil, h1.own_put w1, Go.own_put .refl hL, w0, by simpa using q1⟩, ?_⟩
  rintro i m H2 ⟨rfl, hi, W2, S2, acc, vs, eL, ra, h2, g2, w2, q2⟩
  by_cases hlt : i < xs.length
  · refine .inr ⟨wk.go i W2 H2 S2 g2.le h2 hlt, fun H' => ∃ W' S' acc vs, H' L = some (.lst vs) ∧ Reps G.B.K W' acc vs ∧ Ho G.B.K W' H' S' ∧ Go W1 H1 W' H' ∧ Own en W' H' L ∧ Lc g tt te (wipeS ρ (own.map (·.2))) (xs.drop (i + 1)) acc S' Q, fun H' k => ⟨_, by omega, rfl, hlt, k⟩, fun x H3 y => ?_⟩
    obtain ⟨d, W3, ed, h3, g3, rd⟩ := wk.yl i W2 H2 S2 x H3 g2.le h2 hlt y
    rw [List.drop_eq_getElem_cons hlt] at q2
    have e2 : xs[i] = d := by
      rw [List.getElem?_eq_getElem hlt] at ed
      exact Option.some.inj ed
    rw [e2] at q2
    intro s0 H0 C cl fp pins3 s3 u I3 ru
    have ef : Fits (G.blk scope) (X.blk s0 H0 scope (compEnvC scope cl C X.env) fp) en := z.hf.blk hc
    have z3 : At (G.blk scope) (X.blk s0 H0 scope (compEnvC scope cl C X.env) fp) en W3 (L2.wipe σ (own.map (·.2))) H3 (wipeS ρ (own.map (·.2))) S2 noE pins3 s3 := ⟨ef, takes_no, (r1.after h2 g2).after h3 g3, I3⟩
    refine thn (hg.run z3 rd ru q2) fun _ s4 ⟨σ4, H4, W4, ρ4, S4, z4, ⟨l4, q4⟩, ⟨k4, n4⟩, g4⟩ => ⟨σ4, H4, z4.I, ?_, ?_⟩
    · have e1 := wipe_eq (own.map (·.2)) n4 fun j hj => k4 j fun c => hj (hw j c)
      rw [e1]
      exact wipe_eq _ (wipe_length _ _) fun j hj => wipe_out hj
    · intro s01 H01 C1 cl1 fp1 pins5 s5 I5
      have ef1 : Fits (G.blk scope) (X.blk s01 H01 scope (compEnvC scope cl1 C1 X.env) fp1) en := z.hf.blk hc
      have z5 : At (G.blk scope) (X.blk s01 H01 scope (compEnvC scope cl1 C1 X.env) fp1) en W4 σ4 H4 ρ4 S4 noE pins5 s5 := ⟨ef1, takes_no, z4.rs, I5⟩
      refine thn (ht.run z5 q4) fun b s6 ⟨H6, I6, W6, S6, h6, g6, q6⟩ => ⟨H6, I6, ?_⟩
      have g26 : Go W2 H2 W6 H6 := ((g3.trans g4 z4.rs.ho).trans g6 h6)
      cases b with
      | false =>
        simp only [Bool.false_eq_true, if_false] at q6 ⊢
        exact ⟨W6, S6, acc, vs, g26.kp L _ eL w2.m, ra.le g26.le, h6, g2.trans g26 h6, w2.go g26 eL, q6⟩
      | true =>
        simp only [if_true] at q6 ⊢
        intro s02 H02 C2 cl2 fp2 pins7 s7 I7
        have ef2 : Fits (G.blk scope) (X.blk s02 H02 scope (compEnvC scope cl2 C2 X.env) fp2) en := z.hf.blk hc
        have z7 : At (G.blk scope) (X.blk s02 H02 scope (compEnvC scope cl2 C2 X.env) fp2) en W6 σ4 H6 ρ4 S6 noE pins7 s7 := ⟨ef2, takes_no, z5.rs.after h6 g6, I7⟩
        refine thn (he.run z7 q6) fun v8 s8 ⟨x8, H8, I8, r8, W8, o8, S8, h8, g8, ro8, d8, eo, hz, q8⟩ => ?_
        subst eo
        have g28 := g26.trans g8 h8
        have eL8 := g28.kp L _ eL w2.m
        have w8 := w2.go g28 eL
        refine ⟨x8, H8, I8, r8, vs, eL8, by rw [ra.len]; exact hz, W8, S8, acc ++ [d8], vs ++ [x8], upd_same, (ra.le g28.le).app (.cons ro8 .nil), h8.own_put w8, Go.own_put (g2.trans g28 h8) hL, ⟨w8.f, w8.e, w8.m⟩, q8⟩
  · have e : i = xs.length := by omega
    subst e
    rw [List.drop_length] at q2
    exact .inl ⟨wk.st _ W2 H2 S2 g2.le h2 (Nat.le_refl _), L, W2, vs, acc, S2, rfl, eL, ra, h2, g1.trans g2 h2, hL0, w2.f, w2.m, q2⟩
theorem df_lc {iter elt : Expr} {ifs : List Expr} {scope : Scope} {own : List (Str × Nat)} {ws : List Nat} {ti : RI} {g : RG} {tt : RT} {te : RE} (hc : G.B.cal = false) (hw : ∀ j, j ∈ ws → j ∈ own.map (·.2)) (hi : DI G tg iter ti) (ok : BlkOk G.N G.sc scope own) (hg : DG (G.blk scope) tg ws g) (ht : DTs (G.blk scope) ifs tt) (he : DE (G.blk scope) elt te)
    (hs : ∀ (env : Env) x, foldedSetIterable iter env x = pure x := by intro _ _; rfl) : DF G (.ListComp elt [⟨tg, iter, ifs, 0⟩] scope pos) (fLc ti g tt te (own.map (·.2))) := by
  refine ⟨fun {X en W σ H ρ S E pins s Q} z q => ?_⟩
  have PP := pe_lc (X := X) (elt := elt) (tg := tg) (iter := iter) (ifs := ifs) (scope := scope) (own := own) (pos := pos) (wi := tIr X tg iter) (g := tGb X scope tg) (tt := tTb X scope ifs) (te := tEb X scope elt) (z.hf.b.cm hc).1 z.hf.nd (ican X tg iter) (by rw [z.hf.N, z.hf.sc]; exact ok)
    (fun s H C cl fp => ⟨fun pins s' σ H v u Q I r h => h _ _ _ _ _ pins s' u I r⟩) (fun s H C cl fp => ⟨fun pins s' σ H Q I h => h _ _ _ _ _ pins s' I⟩) (fun s H C cl fp => ⟨fun pins s' σ H Q I h => h _ _ _ _ _ pins s' I⟩) (hs _)
  refine thn (PP.run pins s σ H _ z.I (lc_read hc hw hi hg ht he z q)) fun v s1 ⟨x, H1, I1, r1, a, W1, vs, xs, S1, e, ha, rr, h1, g1, n, nf, nm, q1⟩ => ?_
  subst e
  obtain rfl : v = Value.ref a := r1
  exact ⟨a, H1, W1, vs, xs, S1, I1, rfl, ha, rr, h1, g1, n, nf, nm, q1⟩
/-- name = [..] on one line, the name a local: the frame's own list, or a value -/
def dAsgC (i : Nat) (tf : RF) : RS := fun D ρ S => tf ρ S D.ex fun xs S1 => D.nx (ρ.set i (.ol xs)) S1
theorem ds_setLc {i : Nat} {y : Str} {py spos : Pos} {iter elt : Expr} {ifs : List Expr} {scope : Scope} {own : List (Str × Nat)} {ws : List Nat} {ti : RI} {g : RG} {tt : RT} {te : RE} (hc : G.B.cal = false) (hw : ∀ j, j ∈ ws → j ∈ own.map (·.2)) (hy : G.N[i]? = some y) (hyl : G.sc.names.lookup y = some .local)
    (hsw : ∀ env : Env, env.scope = G.sc → swapsWith (.ListComp elt [⟨tg, iter, ifs, 0⟩] scope pos) (some (.Name y py)) spos.line env = pure true) (hi : DI G tg iter ti) (ok : BlkOk G.N G.sc scope own) (hg : DG (G.blk scope) tg ws g) (ht : DTs (G.blk scope) ifs tt) (he : DE (G.blk scope) elt te)
    (hs : ∀ (env : Env) x, foldedSetIterable iter env x = pure x := by intro _ _; rfl) : DS G (.Assign [.Name y py] (.ListComp elt [⟨tg, iter, ifs, 0⟩] scope pos) spos) (dAsgC i (fLc ti g tt te (own.map (·.2)))) := by
  refine ⟨fun {X en W σ H ρ S pins s D} z q => ?_⟩
  have PP := ps_setLc (X := X) (i := i) (y := y) (py := py) (spos := spos) (elt := elt) (tg := tg) (iter := iter) (ifs := ifs) (scope := scope) (own := own) (pos := pos) (wi := tIr X tg iter) (g := tGb X scope tg) (tt := tTb X scope ifs) (te := tEb X scope elt) (z.hf.b.cm hc).1 z.hf.nd (by rw [z.hf.N]; exact hy) (by rw [z.hf.sc]; exact hyl) (hsw _ z.hf.sc) (ican X tg iter) (by rw [z.hf.N, z.hf.sc]; exact ok)
    (fun s H C cl fp => ⟨fun pins s' σ H v u Q I r h => h _ _ _ _ _ pins s' u I r⟩) (fun s H C cl fp => ⟨fun pins s' σ H Q I h => h _ _ _ _ _ pins s' I⟩) (fun s H C cl fp => ⟨fun pins s' σ H Q I h => h _ _ _ _ _ pins s' I⟩) (hs _)
  have rd := lc_read hc hw hi hg ht he z q
  have mono : ∀ {F F' : VK}, (∀ v H, F v H → F' v H) → tLc (tIr X tg iter) (tGb X scope tg) (tTb X scope ifs) (tEb X scope elt) (own.map (·.2)) σ H F → tLc (tIr X tg iter) (tGb X scope tg) (tTb X scope ifs) (tEb X scope elt) (own.map (·.2)) σ H F' := fun {F F'} hF h pins' s' I => thn (h pins' s' I) fun v s1 h1 => thn h1 fun itv s2 h2 => pi_imp (fun J H1 k L hL => by
    obtain ⟨Wv, m0, st⟩ := k L hL
    exact ⟨Wv, m0, fun i m H w => (st i m H w).imp (fun ⟨p1, p2⟩ => ⟨p1, hF _ _ p2⟩) id⟩) h2
  refine PP.run pins s σ H _ z.I (mono (fun v H1 ⟨a, W1, vs, xs, S1, e, ha, rr, h1, g1, n, nf, nm, q1⟩ => ?_) rd)
  subst e
  exact ⟨W1, _, S1, z.rs.fresh h1 g1 ha rr n nf nm, g1.le, q1⟩
end
end Dt

set_option Elab.async false
set_option linter.all false
set_option maxRecDepth 100000
set_option maxHeartbeats 4000000
/-! DatG: defs by their bodies: entry, binding of arguments, calls, makers -/
namespace Dt
open PySem PySem.Spec PyProof.Rows L2 My
/-- how a call's arguments come to the parameters. pre: what stands ahead (the instance under way); ks: the names of the keywords; ok: which lists may come; ar: the parameters' values -/
def BindM (B : Bs) (fd : FuncData) (ps : List Str) (m : Nat) (ks : List Str) (ok : List D → List D → Prop) (ar : List D → List D → List D) : Prop :=
  ∀ (A : Around) (outer : List Env) (s : Shared) (W : Wd) (H : Hp) (S : Sto) (E : XK) (pre : List V) (preU : List Value) (ds zs : List D) (vs ws : List V) (us us' : List Value), pre.length = m → ok ds zs → Env0 B.P B.w B.K B.mg B.base A outer s H → B.K.In s.heap → Ho B.K W H S →
    Vals pre preU → Reps B.K W ds vs → Reps B.K W zs ws → Vals vs us → Vals ws us' →
    StX.Bnd (L2.CX B.P B.w) B.P B.w B.K B.mg B.base fd ⟨preU ++ us, ks.zip us'⟩ ps A outer s H E (fun vs2 H2 => ∃ W2 vs3, vs2 = pre ++ vs3 ∧ Ho B.K W2 H2 S ∧ Go W H W2 H2 ∧ Reps B.K W2 (ar ds zs) vs3 ∧ ∀ a o, H a = some o → H2 a = some o)
/-- no new object at the binding -/
theorem bnd_to {P : Program} {w : World} {K : PySem.W.Frag} {mg : Str → Option Value} {base : Heap} {fd : FuncData} {args : Args} {ps : List Str} {A : Around} {outer : List Env} {s : Shared} {H : Hp} {E : XK} {us : List Value} {vs : List V} {G : List V → Hp → Prop}
    (e0 : Env0 P w K mg base A outer s H) (b : BindsTo s fd args (ps.zip us)) (r : Vals vs us) (hl : vs.length = ps.length) (g : G vs H) : StX.Bnd (L2.CX P w) P w K mg base fd args ps A outer s H E G :=
  fun A' Ex Q h => b _ _ _ _ (h s H vs us e0 Un.refl rfl (fun _ _ z => z) r hl g)
/-- the values of defaults -/
def Dfl (K : PySem.W.Frag) (ds : List D) (vs : List V) : Prop := ∀ W, Reps K W ds vs
section
variable {B : Bs} {x qual : Str} {params : Arguments} {body : List Stmt} {scope : Scope} {dvs : List V} {kws : List (Str × V)} {f : Addr} {fd : FuncData} {N ps ks : List Str} {m n : Nat}
/-- by position, none lacking -/
theorem bm_all (F : FunD B.K x qual params body scope [] kws f fd)
    (h : ∀ (kV doc pm : Value) (an : Option Addr) (cdv ct : Value) (us : List Value), us.length = ps.length → bindArgs (PySem.W.fnOf x qual params body scope .none kV doc pm an cdv ct) ⟨us, []⟩ = pure (ps.zip us)) :
    BindM B fd ps m [] (fun ds zs => ds.length + m = ps.length ∧ zs = []) (fun ds _ => ds) := by
  intro A outer s W H S E pre preU ds zs vs ws us us' hm ok e0 KX ho rp rd rz rv rw'
  obtain ⟨ok, e⟩ := ok
  subst e
  cases rz
  cases rw'
  have hl : (pre ++ vs).length = ps.length := by rw [List.length_append, rd.len]; omega
  have hu : (preU ++ us).length = ps.length := by rw [← hl]; exact ((rp.append rv).length).symm
  exact bnd_to e0 (F.bindsA h s (preU ++ us) hu) (rp.append rv) hl ⟨W, vs, rfl, ho, .refl, rd, fun _ _ z => z⟩
/-- by position, the last defaults filling up -/
theorem bm_dfl {dd : List D} (F : FunD B.K x qual params body scope dvs kws f fd) (n j : Nat) (hd : dvs ≠ []) (hn : n + (dvs.length - j) = ps.length)
    (h : ∀ (T : Addr) (kV doc pm : Value) (an : Option Addr) (cdv ct : Value) (us its : List Value), us.length = n → its.length = dvs.length →
      ∃ k, bindArgs (PySem.W.fnOf x qual params body scope (.ref T) kV doc pm an cdv ct) ⟨us, []⟩ = seqItems? (.ref T) >>= k ∧ k (some its.toArray) = pure (ps.zip (us ++ its.drop j))) (hdd : Dfl B.K dd (dvs.drop j)) :
    BindM B fd ps m [] (fun ds zs => ds.length + m = n ∧ zs = []) (fun ds _ => ds ++ dd) := by
  obtain ⟨dsV, r1, hb⟩ := F.binds1 n j hd hn h
  intro A outer s W H S E pre preU ds zs vs ws us us' hm ok e0 KX ho rp rd rz rv rw'
  obtain ⟨ok, e⟩ := ok
  subst e
  cases rz
  cases rw'
  have hdl : (dvs.drop j).length = ps.length - n := by rw [List.length_drop]; omega
  have hl : (pre ++ (vs ++ dvs.drop j)).length = ps.length := by rw [List.length_append, List.length_append, rd.len, hdl]; omega
  have r2 : Vals (pre ++ (vs ++ dvs.drop j)) (preU ++ us ++ dsV) := by
    rw [← List.append_assoc]
    exact (rp.append rv).append r1
  exact bnd_to e0 (hb s (preU ++ us) KX (by rw [← hl]; exact r2.length.symm)) r2 hl ⟨W, _, rfl, ho, .refl, rd.app (hdd W), fun _ _ z => z⟩
/-- with keywords, by a rule of binding -/
theorem bm_kbn {g : List Value → List Value → List Value} {gV : List V → List V → List V} {ar : List D → List D → List D} (kb : KBn B.K fd ps n ks g gV) (nm : m ≤ n)
    (hg : ∀ W pre ds zs vs ws, pre.length = m → ds.length + m = n → zs.length = ks.length → Reps B.K W ds vs → Reps B.K W zs ws → ∃ vs3, gV (pre ++ vs) ws = pre ++ vs3 ∧ Reps B.K W (ar ds zs) vs3 ∧ (pre ++ vs3).length = ps.length) :
    BindM B fd ps m ks (fun ds zs => ds.length + m = n ∧ zs.length = ks.length) ar := by
  intro A outer s W H S E pre preU ds zs vs ws us us' hm ok e0 KX ho rp rd rz rv rw'
  obtain ⟨ok, okz⟩ := ok
  obtain ⟨vs3, e, r3, hl⟩ := hg W pre ds zs vs ws hm ok okz rd rz
  have h1 : (preU ++ us).length = n := by rw [← (rp.append rv).length, List.length_append, rd.len]; omega
  have h2 : us'.length = ks.length := by rw [← rw'.length, rz.len]; exact okz
  have r := kb.rel (rp.append rv) rw'
  rw [e] at r
  exact bnd_to e0 (kb.to s (preU ++ us) us' KX h1 h2) r hl ⟨W, vs3, rfl, ho, .refl, r3, fun _ _ z => z⟩
end

/-! ### a def's body -/
/-- what is known of a frame's context, whatever is tried in it -/
structure Axm where
  ax : Cx → En → Prop
  axt : ∀ (X : Cx) (en : En) (pn : List (Addr × Obj)) (xe : Value → Shared → Prop), ax X en → ax (X.tr pn xe) en
def axT : Axm := ⟨fun _ _ => True, fun _ _ _ _ _ => trivial⟩
abbrev fnCfA (B : Bs) (k : Nat) (N : List Str) (scope : Scope) (a : Axm) : Cf := ⟨B, k, N, scope, true, fun _ => true, true, a.ax, a.axt⟩
abbrev fnCf (B : Bs) (k : Nat) (N : List Str) (scope : Scope) : Cf := fnCfA B k N scope axT
def startS (n : Nat) (ds : List D) : List Sl := ds.map Sl.sh ++ List.replicate (n - ds.length) .un
theorem start_rs {K : PySem.W.Frag} {en : En} {W : Wd} {H : Hp} {S : Sto} {N : List Str} {ds : List D} {vs : List V} (ho : Ho K W H S) (g : Go en.W en.H W H) (r : Reps K W ds vs) : Rs K en W (L2.start N vs) H (startS N.length ds) S where
  ho := ho
  go := g
  len := by
    unfold startS L2.start
    rw [List.length_append, List.length_append, List.length_map, List.length_map, List.length_replicate, List.length_replicate, r.len]
  sl := fun i s e => by
    unfold startS at e
    by_cases hi : i < ds.length
    · rw [List.getElem?_append_left (by rw [List.length_map]; exact hi), List.getElem?_map, List.getElem?_eq_getElem hi] at e
      cases e
      obtain ⟨v, ev, rv⟩ := r.at (List.getElem?_eq_getElem hi)
      refine ⟨v, ?_, rv⟩
      unfold L2.start
      rw [List.getElem?_append_left (by rw [List.length_map, r.len]; exact hi), List.getElem?_map, ev] <;> rfl
    · rw [List.getElem?_append_right (by rw [List.length_map]; omega), List.getElem?_replicate] at e
      split at e
      · cases e
        trivial
      · cases e
  dis := fun i j s t a ne e1 o1 e2 o2 q1 q2 => by
    unfold startS at e1
    by_cases hi : i < ds.length
    · rw [List.getElem?_append_left (by rw [List.length_map]; exact hi), List.getElem?_map, List.getElem?_eq_getElem hi] at e1
      cases e1
      cases o1
    · rw [List.getElem?_append_right (by rw [List.length_map]; omega), List.getElem?_replicate] at e1
      split at e1
      · cases e1
        cases o1
      · cases e1
section
variable {B : Bs} {x qual : Str} {params : Arguments} {body : List Stmt} {scope : Scope} {dvs : List V} {kws : List (Str × V)} {f : Addr} {fd : FuncData} {N ps ks : List Str} {m k : Nat} {ok : List D → List D → Prop} {ar : List D → List D → List D} {t : RS}
/-- a def runs: from any start -/
theorem run_defA {ax : Axm} (F : FunD B.K x qual params body scope dvs kws f fd) (Sc : FnScope N ps scope) (hot : B.hot = false) (bm : BindM B fd ps m ks ok ar) (hd : DSs (fnCfA B k N scope ax) body t) {A : Around} {outer : List Env} {s : Shared} {W : Wd} {H : Hp} {S : Sto} {Q : VK} {E : XK} {pre : List V} {preU : List Value} {ds zs : List D} {vs ws : List V} {us us' : List Value}
    (hm : pre.length = m) (hok : ok ds zs) (hr : My.RG (k + 1) A) (e0 : Env0 B.P B.w B.K B.mg B.base A outer s H) (KX : B.K.In s.heap) (ho : Ho B.K W H S) (rp : Vals pre preU) (rd : Reps B.K W ds vs) (rz : Reps B.K W zs ws) (rv : Vals vs us) (rw' : Vals ws us')
    (hax : ∀ (en : En) (cdv : Value) (A : Around) (outer : List Env) (s : Shared) (H : Hp) (E : XK), (f = He.ga B.K x → cdv = .ref (He.codeOf B.K (x, none))) → ax.ax (cxOf (L2.CX B.P B.w) B.P B.w B.K B.mg B.base N qual scope f cdv A outer s H E) en)
    (hq : ∀ W2 H2 vs3, Ho B.K W2 H2 S → Go W H W2 H2 → Reps B.K W2 (ar ds zs) vs3 → (∀ a o, H a = some o → H2 a = some o) → ∃ (en : En) (ρ0 : List Sl) (D : DEnds), en.pin = none ∧ Rs B.K en W2 (L2.start N (pre ++ vs3)) H2 ρ0 S ∧ t D ρ0 S ∧
      (∀ σ' H' W' ρ' S', Rs B.K en W' σ' H' ρ' S' → W2.Le W' → D.nx ρ' S' → Q .non H') ∧ (∀ v H' W' σ' ρ' d S', Rs B.K en W' σ' H' ρ' S' → W2.Le W' → Rep B.K W' d v → D.rt d ρ' S' → Q v H') ∧
      (∀ ρ S, ¬ D.bk ρ S) ∧ (∀ ρ S, ¬ D.ct ρ S) ∧ ∀ cls d σ' H', XT B.K en W2 D.ex cls d σ' H' → E cls d H') :
    codeAny (model B.P B.w) A (.call (.ref f) ⟨preU ++ us, ks.zip us'⟩) (CR (L2.CX B.P B.w) outer B.P B.w H s Q E) s := by
  obtain ⟨oc, od, dV, kV, doc, pm, an, cdv, ct, osl, rfl, lk, hcd, hD, _⟩ := F.ex
  refine StX.run_bnd lk hcd Sc hr.r e0 (bm A outer s W H S E pre preU ds zs vs ws us us' hm hok e0 KX ho rp rd rz rv rw') fun s2 H2 vs2 ⟨W2, vs3, e2, h2, g2, r3, kp⟩ hr' => ?_
  subst e2
  obtain ⟨en, ρ0, D, pn, rs, hq, n1, n2, n3, n4, n5⟩ := hq W2 H2 vs3 h2 g2 r3 kp
  refine ⟨tBr _ body, bcan _ body, fun pins' s' I => ?_⟩
  have hr2 : My.RG k (A.deeper (envOfC qual scope s2.heap.objs.size f cdv)) := hr.deeper _
  have hcd2 : f = He.ga B.K x → cdv = .ref (He.codeOf B.K (x, none)) := fun ef => by
    subst ef
    obtain ⟨c, rfl⟩ := He.codeIn_ref hcd
    rw [He.codeOf_eq (p := (x, none)) lk rfl]
  have ft : Fits (fnCfA B k N scope ax) (cxOf (L2.CX B.P B.w) B.P B.w B.K B.mg B.base N qual scope f cdv A outer s2 H2 E) en :=
    ⟨⟨rfl, rfl, rfl, rfl, rfl, ⟨hr2.r.dp, hr2.r.un⟩, (fun _ => hr2.g), fun _ => ⟨rfl, hr2.r.hd⟩, (fun p e => by rw [pn] at e; cases e), fun _ => pn⟩, rfl, rfl, Sc.nd, fun _ _ => rfl, fun _ => passes_of rfl, fun _ => ⟨rfl, rfl⟩, hax _ _ _ _ _ _ _ hcd2⟩
  have tk : Takes (cxOf (L2.CX B.P B.w) B.P B.w B.K B.mg B.base N qual scope f cdv A outer s2 H2 E) (XT B.K en W2 D.ex) :=
    (takes_of (X := cxOf (L2.CX B.P B.w) B.P B.w B.K B.mg B.base N qual scope f cdv A outer s2 H2 E) (E := E) rfl rfl rfl rfl).imp n5
  refine thn (hd.run (D := D) ⟨ft, tk, rs, I⟩ hq) fun fl s3 q3 => ?_
  cases fl with
  | next => exact let ⟨σ', H', I', W', ρ', S', r, l, q⟩ := q3; ⟨σ', H', I', n1 _ _ _ _ _ r l q⟩
  | ret v => exact let ⟨v, σ0, H', I', r0, W', σ', ρ', d, S', r, l, rp, q⟩ := q3; ⟨v, σ0, H', I', r0, n2 _ _ _ _ _ _ _ r l rp q⟩
  | brk => exact let ⟨σ', H', I', W', ρ', S', r, l, q⟩ := q3; (n3 _ _ q).elim
  | cont => exact let ⟨σ', H', I', W', ρ', S', r, l, q⟩ := q3; (n4 _ _ q).elim
theorem run_def (F : FunD B.K x qual params body scope dvs kws f fd) (Sc : FnScope N ps scope) (hot : B.hot = false) (bm : BindM B fd ps m ks ok ar) (hd : DSs (fnCf B k N scope) body t) {A : Around} {outer : List Env} {s : Shared} {W : Wd} {H : Hp} {S : Sto} {Q : VK} {E : XK} {pre : List V} {preU : List Value} {ds zs : List D} {vs ws : List V} {us us' : List Value}
    (hm : pre.length = m) (hok : ok ds zs) (hr : My.RG (k + 1) A) (e0 : Env0 B.P B.w B.K B.mg B.base A outer s H) (KX : B.K.In s.heap) (ho : Ho B.K W H S) (rp : Vals pre preU) (rd : Reps B.K W ds vs) (rz : Reps B.K W zs ws) (rv : Vals vs us) (rw' : Vals ws us')
    (hq : ∀ W2 H2 vs3, Ho B.K W2 H2 S → Go W H W2 H2 → Reps B.K W2 (ar ds zs) vs3 → (∀ a o, H a = some o → H2 a = some o) → ∃ (en : En) (ρ0 : List Sl) (D : DEnds), en.pin = none ∧ Rs B.K en W2 (L2.start N (pre ++ vs3)) H2 ρ0 S ∧ t D ρ0 S ∧
      (∀ σ' H' W' ρ' S', Rs B.K en W' σ' H' ρ' S' → W2.Le W' → D.nx ρ' S' → Q .non H') ∧ (∀ v H' W' σ' ρ' d S', Rs B.K en W' σ' H' ρ' S' → W2.Le W' → Rep B.K W' d v → D.rt d ρ' S' → Q v H') ∧
      (∀ ρ S, ¬ D.bk ρ S) ∧ (∀ ρ S, ¬ D.ct ρ S) ∧ ∀ cls d σ' H', XT B.K en W2 D.ex cls d σ' H' → E cls d H') :
    codeAny (model B.P B.w) A (.call (.ref f) ⟨preU ++ us, ks.zip us'⟩) (CR (L2.CX B.P B.w) outer B.P B.w H s Q E) s :=
  run_defA F Sc hot bm hd hm hok hr e0 KX ho rp rd rz rv rw' (fun _ _ _ _ _ _ _ _ => trivial) hq
/-- what is wanted of a def's body -/
abbrev fnD (Ex : XS) (Q : QO) : DEnds := ⟨fun _ S' => Q (.v .non) S', fun d _ S' => Q (.v d) S', fun _ _ => False, fun _ _ => False, fun _ => Ex⟩
theorem call_def (F : FunD B.K x qual params body scope dvs kws f fd) (Sc : FnScope N ps scope) (hot : B.hot = false) (bm : BindM B fd ps 0 ks ok ar) (hd : DSs (fnCf B k N scope) body t) {ds zs : List D} {S : Sto} {Ex : XS} {Q : QO} (hok : ok ds zs)
    (hq : t (fnD Ex Q) (startS N.length (ar ds zs)) S) : sFun B (k + 1) (.ref f) ks ds zs S Ex Q := by
  intro A outer s W H en σ vs ws us us' hr e0 KX ho rx rz rv rw'
  refine run_def F Sc hot bm hd (pre := []) (preU := []) (Q := Nx B.K en W H Q) (E := WE (XN B.K W H σ Ex) σ) rfl hok hr e0 KX ho .nil rx rz rv rw' fun W2 H2 vs3 h2 g2 r3 kp => ?_
  refine ⟨⟨W, H, 0, none⟩, startS N.length (ar ds zs), fnD Ex Q, rfl, start_rs h2 g2 r3, hq, fun σ' H' W' ρ' S' r l q => ?_, fun v H' W' σ' ρ' d S' r l rp q => ?_, fun _ _ z => z, fun _ _ z => z, fun cls d σ' H' ⟨C, fs, W', ρ', S', xr, r, l, q⟩ => ?_⟩
  · exact ⟨W', .v .non, S', r.ho, r.go, .non, q⟩
  · exact ⟨W', .v d, S', r.ho, r.go, rp, q⟩
  · exact ⟨rfl, C, fs, W', S', xr, r.ho, r.go, q⟩
end
end Dt

set_option Elab.async false
set_option linter.all false
set_option maxRecDepth 100000
set_option maxHeartbeats 4000000
/-! DatH: instances: made, read, stored; methods, properties, classmethods, operators -/
namespace Dt
open PySem PySem.Spec PyProof.Rows L2 My
section
variable {K : PySem.W.Frag} {en : En} {W W1 : Wd} {H H1 : Hp} {S : Sto} {p : Addr} {o u : HO}
/-- a new object of no note -/
theorem Ho.new (h : Ho K W H S) (n : H p = none) : Ho K W (upd H p o) S :=
  ⟨h.n, fun a u e => upd_keep n (h.fh a u e), h.inj, h.mF, fun i hi => let ⟨u, e⟩ := h.there i hi; ⟨u, upd_keep n e⟩, fun i c e => (h.cel i c e).le .refl fun u q => upd_keep n q⟩
theorem Go.new (g : Go W H W1 H1) (n : H1 p = none) : Go W H W1 (upd H1 p o) := ⟨g.le, g.fn, fun a u e k => upd_keep n (g.kp a u e k), g.mn⟩
/-- an object of our own becomes one of the store -/
theorem Ho.cell2 {c : Cell} (h : Ho K W H S) (e : H p = some u) (nf : W.F p = none) (nm : ∀ i, i < W.n → W.m i ≠ p) (r : RelC K (W.cell p) H p c) : Ho K (W.cell p) H (S ++ [c]) where
  n := by
    show W.n + 1 = _
    rw [h.n, List.length_append] <;> rfl
  fh := h.fh
  inj := fun i j hi hj e => by
    have hi : i < W.n + 1 := hi
    have hj : j < W.n + 1 := hj
    by_cases z1 : i = W.n
    · subst z1
      by_cases z2 : j = W.n
      · exact z2.symm
      · rw [Wd.cell_new, Wd.cell_at (by omega)] at e
        exact absurd e.symm (nm j (by omega))
    · by_cases z2 : j = W.n
      · subst z2
        rw [Wd.cell_new, Wd.cell_at (by omega)] at e
        exact absurd e (nm i (by omega))
      · rw [Wd.cell_at (by omega), Wd.cell_at (by omega)] at e
        exact h.inj i j (by omega) (by omega) e
  mF := fun i hi => by
    have hi : i < W.n + 1 := hi
    by_cases z : i = W.n
    · subst z
      rw [Wd.cell_new]
      exact nf
    · rw [Wd.cell_at (by omega)]
      exact h.mF i (by omega)
  there := fun i hi => by
    have hi : i < W.n + 1 := hi
    by_cases z : i = W.n
    · subst z
      rw [Wd.cell_new]
      exact ⟨u, e⟩
    · rw [Wd.cell_at (by omega)]
      exact h.there i (by omega)
  cel := fun i d q => by
    by_cases z : i < S.length
    · rw [List.getElem?_append_left z] at q
      rw [Wd.cell_at (by rw [h.n]; exact z)]
      exact (h.cel i d q).le Wd.cell_le fun u y => y
    · rw [List.getElem?_append_right (by omega)] at q
      have z2 : i = S.length := by
        have := (List.getElem?_eq_some_iff.mp q).1
        simp only [List.length_cons, List.length_nil] at this
        omega
      subst z2
      rw [Nat.sub_self, List.getElem?_cons_zero] at q
      cases q
      rw [← h.n, Wd.cell_new]
      exact r
theorem Go.cell2 (g : Go W H W1 H1) (n : H p = none) : Go W H (W1.cell p) H1 where
  le := g.le.trans Wd.cell_le
  fn := g.fn
  kp := g.kp
  mn := fun i h1 h2 => by
    have h2 : i < W1.n + 1 := h2
    by_cases z : i = W1.n
    · subst z
      rw [Wd.cell_new]
      exact n
    · rw [Wd.cell_at (by omega)]
      exact g.mn i h1 (by omega)
end
theorem env0_made {P : Program} {w : World} {K : PySem.W.Frag} {mg : Str → Option Value} {base : Heap} {A : Around} {outer : List Env} {s : Shared} {H : Hp} {C : Addr} (e : Env0 P w K mg base A outer s H) (KX : K.In s.heap) :
    Env0 P w K mg base A outer { s with heap := (s.heap.push PySem.W.emptyDict).push (PySem.W.instObj C s.heap.objs.size) } (upd (upd H s.heap.objs.size (.own (s.heap.objs.size + 1))) (s.heap.objs.size + 1) (.ins C s.heap.objs.size [])) ∧
    K.In ((s.heap.push PySem.W.emptyDict).push (PySem.W.instObj C s.heap.objs.size)) ∧
    Un (frs outer) [] H (upd (upd H s.heap.objs.size (.own (s.heap.objs.size + 1))) (s.heap.objs.size + 1) (.ins C s.heap.objs.size [])) s.heap ((s.heap.push PySem.W.emptyDict).push (PySem.W.instObj C s.heap.objs.size)) ∧ True := by
  have e1 : (s.heap.push PySem.W.emptyDict).get? s.heap.objs.size = some PySem.W.emptyDict := Heap.get?_push_size s.heap rfl
  have sz : (s.heap.push PySem.W.emptyDict).objs.size = s.heap.objs.size + 1 := Heap.size_push _ _
  have e2 : ((s.heap.push PySem.W.emptyDict).push (PySem.W.instObj C s.heap.objs.size)).get? (s.heap.objs.size + 1) = some (PySem.W.instObj C s.heap.objs.size) := by
    have := Heap.get?_push_size (s.heap.push PySem.W.emptyDict) (o := PySem.W.instObj C s.heap.objs.size) rfl
    rwa [sz] at this
  have e3 : (s.heap.push PySem.W.emptyDict).Ns s.heap.objs.size (fun _ => none) := ⟨PySem.W.emptyDict, #[], _, e1, rfl, (fun e he => absurd he (by simp)), fun _ => rfl⟩
  have n1 : H s.heap.objs.size = none := e.hok.fresh (Nat.le_refl _)
  have E1 := StX.env0_laid (u := .own (s.heap.objs.size + 1)) (o := PySem.W.emptyDict) e ⟨_, e1⟩
  have U1 := StX.un_laid (fs := frs outer) (s := s) (o := PySem.W.emptyDict) (u := .own (s.heap.objs.size + 1)) n1
  have n2 : (upd H s.heap.objs.size (.own (s.heap.objs.size + 1))) (s.heap.push PySem.W.emptyDict).objs.size = none := E1.hok.fresh (Nat.le_refl _)
  have ne : s.heap.objs.size ≠ s.heap.objs.size + 1 := Nat.ne_of_lt (Nat.lt_succ_self _)
  have ok2 : ObjOk P w (upd (upd H s.heap.objs.size (.own (s.heap.objs.size + 1))) (s.heap.push PySem.W.emptyDict).objs.size (.ins C s.heap.objs.size [])) ((s.heap.push PySem.W.emptyDict).push (PySem.W.instObj C s.heap.objs.size)) (s.heap.push PySem.W.emptyDict).objs.size (.ins C s.heap.objs.size []) := by
    rw [sz]
    exact ⟨by rw [upd_ne ne, upd_same], Nat.zero_le _, ne, e2, fun _ => none, (Heap.Ns1.of_empty e3).at fun o q => Heap.get?_push_of_some _ q, fun _ => True.intro, fun y hy => absurd rfl hy⟩
  have E2 := StX.env0_laid (s := { s with heap := s.heap.push PySem.W.emptyDict }) (u := .ins C s.heap.objs.size []) (o := PySem.W.instObj C s.heap.objs.size) E1 ok2
  have U2 := StX.un_laid (fs := frs outer) (s := { s with heap := s.heap.push PySem.W.emptyDict }) (o := PySem.W.instObj C s.heap.objs.size) (u := .ins C s.heap.objs.size []) n2
  refine ⟨?_, KX.keeps fun b o q => Heap.get?_push_of_some _ (Heap.get?_push_of_some _ q), ?_, trivial⟩
  · have E2' := E2
    dsimp only at E2'
    rw [sz] at E2'
    exact E2'
  · have U2' := U1.trans U2
    dsimp only at U2'
    rw [sz] at U2'
    exact U2'
section
variable {B : Bs} {x qual C : Str} {params : Arguments} {body : List Stmt} {scope : Scope} {dvs : List V} {kws : List (Str × V)} {f : Addr} {fd : FuncData} {N ps ks : List Str} {m k : Nat} {ok : List D → List D → Prop} {ar : List D → List D → List D} {t : RS} {S : Sto} {Ex : XS} {Q : QO}
/-! ### C(..) -/
abbrev mkD (C : Str) (Ex : XS) (Q : QO) : DEnds where
  nx := fun ρ S' => ∃ fs, ρ[0]? = some (.slf C fs) ∧ (Q (.v (.ins C fs)) S' ∨ Q (.v (.ptr S'.length)) (S' ++ [.ins C fs]))
  rt := fun d ρ S' => d = .non ∧ ∃ fs, ρ[0]? = some (.slf C fs) ∧ (Q (.v (.ins C fs)) S' ∨ Q (.v (.ptr S'.length)) (S' ++ [.ins C fs]))
  bk := fun _ _ => False
  ct := fun _ _ => False
  ex := fun _ => Ex
def startM (C : Str) (n : Nat) (ds : List D) : List Sl := .slf C [] :: startS (n - 1) ds
theorem call_mk (M : Mg B.K (He.ga B.K C) f) (F : FunD B.K x qual params body scope dvs kws f fd) (Sc : FnScope N ps scope) (hot : B.hot = false) (bm : BindM B fd ps 1 ks ok ar) (hd : DSs (fnCf B k N scope) body t) {ds zs : List D} (hok : ok ds zs)
    (hq : t (mkD C Ex Q) (startM C N.length (ar ds zs)) S) (hN : 0 < N.length := by decide) : sFun B (k + 2) (.ref (He.ga B.K C)) ks ds zs S Ex Q := by
  intro A outer s W H en σ xs' zs' us ws rg e0' KX' ho rx rz rv rw'
  have hx : H (s.heap.objs.size + 1) = none := e0'.hok.fresh (Nat.le_succ _)
  have hdx : H s.heap.objs.size = none := e0'.hok.fresh (Nat.le_refl _)
  obtain ⟨e0, KX, un0, os0⟩ := env0_made (C := He.ga B.K C) e0' KX'
  have hx1 : upd H s.heap.objs.size (.own (s.heap.objs.size + 1)) (s.heap.objs.size + 1) = none := by
    rw [upd_ne (Nat.succ_ne_self _)]
    exact hx
  have key := run_def F Sc hot bm hd (A := A.under (.builtin "type.__call__" ⟨.ref (He.ga B.K C) :: us, ks.zip ws⟩)) (pre := [.ref (s.heap.objs.size + 1)]) (preU := [.ref (s.heap.objs.size + 1)]) (W := W) (S := S)
    (Q := fun v H' => v = .non ∧ Nx B.K en W H Q (.ref (s.heap.objs.size + 1)) H') (E := WE (XN B.K W H σ Ex) σ) rfl hok (RG.make rg _ us (ks.zip ws)) (e0.make _ us (ks.zip ws)) KX ((ho.new hdx).new hx1) (.cons rfl .nil) rx rz rv rw' fun W2 H2 vs3 h2 g2 r3 kp => by
    have gg : Go W H W2 H2 := ((Go.refl.new hdx).new hx1).trans g2 h2
    have e2 : H2 (s.heap.objs.size + 1) = some (.ins (He.ga B.K C) s.heap.objs.size []) := kp _ _ upd_same
    have nF : W2.F (s.heap.objs.size + 1) = none := by
      cases q : W2.F (s.heap.objs.size + 1) with
      | none => rfl
      | some y =>
        rcases g2.fn _ y q with z | z
        · have := ho.fh _ _ z
          rw [hx] at this
          cases this
        · rw [upd_same] at z
          cases z
    have nM : ∀ i, i < W2.n → W2.m i ≠ s.heap.objs.size + 1 := fun i hi c => by
      by_cases z : i < W.n
      · obtain ⟨y, ey⟩ := ho.there i z
        rw [← gg.le.m i z, c, hx] at ey
        cases ey
      · have := g2.mn i (Nat.not_lt.mp z) hi
        rw [c, upd_same] at this
        cases this
    have fin : ∀ {W' : Wd} {σ' : L2.St} {H' : Hp} {ρ' : List Sl} {S' : Sto}, Rs B.K ⟨W, H, s.heap.objs.size + 1, none⟩ W' σ' H' ρ' S' → (∃ fs, ρ'[0]? = some (.slf C fs) ∧ (Q (.v (.ins C fs)) S' ∨ Q (.v (.ptr S'.length)) (S' ++ [.ins C fs]))) → Nx B.K en W H Q (.ref (s.heap.objs.size + 1)) H' := fun {W' σ' H' ρ' S'} r ⟨fs, e, q⟩ => by
      obtain ⟨dx, vs, _, eH, rf, w⟩ := r.sl 0 _ e
      have w : Own ⟨W, H, s.heap.objs.size + 1, none⟩ W' H' (s.heap.objs.size + 1) := w
      have eH : H' (s.heap.objs.size + 1) = some (.ins (He.ga B.K C) dx vs) := eH
      rcases q with q | q
      · exact ⟨_, .v (.ins C fs), S', r.ho.frz2 eH w.f w.m, Go.frz2 (K := B.K) r.go hx w.f, .ins upd_same (rf.le (W'.frz_le w.f)), q⟩
      · refine ⟨_, .v (.ptr S'.length), _, r.ho.cell2 (c := .ins C fs) eH w.f w.m ⟨dx, vs, eH, rf.le Wd.cell_le⟩, r.go.cell2 hx, ?_, q⟩
        have z : Rep B.K (W'.cell (s.heap.objs.size + 1)) (.ptr W'.n) (.ref ((W'.cell (s.heap.objs.size + 1)).m W'.n)) := .ptr (Nat.lt_succ_self _)
        rw [Wd.cell_new, r.ho.n] at z
        exact z
    refine ⟨⟨W, H, s.heap.objs.size + 1, none⟩, startM C N.length (ar ds zs), mkD C Ex Q, rfl, ?_, hq, fun σ' H' W' ρ' S' r l q => ⟨rfl, fin r q⟩, fun v H' W' σ' ρ' d S' r l rp q => ?_, fun _ _ z => z, fun _ _ z => z, fun cls d σ' H' ⟨C', fs, W', ρ', S', xr, r, l, q⟩ => ⟨rfl, C', fs, W', S', xr, r.ho, r.go, q⟩⟩
    · have base := start_rs (K := B.K) (en := ⟨W, H, s.heap.objs.size + 1, none⟩) (N := N.tail) h2 gg r3
      have hlen : N.tail.length = N.length - 1 := List.length_tail
      refine ⟨base.ho, base.go, ?_, fun i sl e => ?_, fun i j sl t a ne e1 o1 e2' o2 q1 q2 => ?_⟩
      · unfold startM startS L2.start
        simp only [List.length_cons, List.length_append, List.length_map, List.length_replicate, List.length_nil, r3.len]
        omega
      · cases i with
        | zero =>
          cases e
          refine ⟨s.heap.objs.size, [], ?_, e2, .nil, nF, hx, nM⟩
          unfold L2.start
          rfl
        | succ i =>
          have e' : (startS (N.length - 1) (ar ds zs))[i]? = some sl := e
          rw [← hlen] at e'
          have k := base.sl i sl e'
          have q : (L2.start N ([V.ref (s.heap.objs.size + 1)] ++ vs3))[i + 1]? = (L2.start N.tail vs3)[i]? := by
            unfold L2.start
            have : N.length - ([V.ref (s.heap.objs.size + 1)] ++ vs3).length = N.tail.length - vs3.length := by
              rw [hlen]
              simp only [List.length_append, List.length_cons, List.length_nil]
              omega
            rw [this]
            rfl
          rw [q]
          exact k
      · have own0 : ∀ {i : Nat} {sl : Sl}, (startM C N.length (ar ds zs))[i]? = some sl → isOwn sl = true → i = 0 := fun {i sl} e o => by
          cases i with
          | zero => rfl
          | succ i =>
            have e' : (startS (N.length - 1) (ar ds zs))[i]? = some sl := e
            unfold startS at e'
            by_cases hi : i < (ar ds zs).length
            · rw [List.getElem?_append_left (by rw [List.length_map]; exact hi), List.getElem?_map, List.getElem?_eq_getElem hi] at e'
              cases e'
              cases o
            · rw [List.getElem?_append_right (by rw [List.length_map]; omega), List.getElem?_replicate] at e'
              split at e'
              · cases e'
                cases o
              · cases e'
        exact ne ((own0 e1 o1).trans (own0 e2' o2).symm)
    · obtain ⟨ed, q⟩ := q
      subst ed
      cases rp
      exact ⟨rfl, fin r q⟩
  refine make_map (K := B.K) (f := f) KX' M.makes M.init (beq_iff_eq.mp M.fn) (codeAny_mono key fun y s' hq' => ?_)
  match y, hq' with
  | .error er, hq' =>
    have hq2 : L2.CX B.P B.w outer (upd (upd H s.heap.objs.size (.own (s.heap.objs.size + 1))) (s.heap.objs.size + 1) (.ins (He.ga B.K C) s.heap.objs.size [])) { s with heap := (s.heap.push PySem.W.emptyDict).push (PySem.W.instObj (He.ga B.K C) s.heap.objs.size) } (WE (XN B.K W H σ Ex) σ) er s' := hq'
    exact StX.cxUp outer s H { s with heap := (s.heap.push PySem.W.emptyDict).push (PySem.W.instObj (He.ga B.K C) s.heap.objs.size) } _ _ er s' un0 (fun b o e => Heap.get?_push_of_some _ (Heap.get?_push_of_some _ e)) rfl hq2
  | .ok (.ret u), hq' =>
    obtain ⟨v, H', o1, b1, u1, h1, rv', ev, q3⟩ := hq'
    subst ev
    exact ⟨rv', V.ref (s.heap.objs.size + 1), H', o1, b1, un0.trans u1, h1, rfl, q3⟩
end
end Dt

set_option Elab.async false
set_option linter.all false
set_option maxRecDepth 100000
set_option maxHeartbeats 4000000
/-! DatI: fields, properties, methods, classmethods, stores of fields -/
namespace Dt
open PySem PySem.Spec PyProof.Rows L2 My
/-- an instance of the class C with these fields -/
def IsI (S : Sto) : O → Str → List (Str × D) → Prop
  | .v (.ins C fs), C', fs' => C' = C ∧ fs' = fs
  | .v (.ptr i), C', fs' => S[i]? = some (.ins C' fs')
  | .s C fs, C', fs' => C' = C ∧ fs' = fs
  | _, _, _ => False
theorem isI_ptr {S : Sto} {i : Nat} {C : Str} {fs : List (Str × D)} (h : S[i]? = some (.ins C fs)) : IsI S (.v (.ptr i)) C fs := h
abbrev ClD (K : PySem.W.Frag) (C : Str) : Prop := Cls K (He.ga K C)
abbrev NoA (K : PySem.W.Frag) (C f : Str) : Prop := NoAttr K (He.ga K C) f
section
variable {K : PySem.W.Frag} {en : En} {W : Wd} {H : Hp} {S : Sto} {o : O} {C : Str} {fs : List (Str × D)} {v : V}
theorem isI_at (ho : Ho K W H S) (h : IsI S o C fs) (r : RepO K en W H o v) : ∃ a dx vs, v = .ref a ∧ H a = some (.ins (He.ga K C) dx vs) ∧ RepF K W fs vs := by
  cases o with
  | v d =>
    cases r with
    | ins q r =>
      obtain ⟨rfl, rfl⟩ := h
      exact ⟨_, _, _, rfl, ho.fh _ _ q, r⟩
    | ptr hi =>
      obtain ⟨dx, vs, e, r⟩ := ho.cel _ _ h
      exact ⟨_, dx, vs, rfl, e, r⟩
    | _ => exact h.elim
  | b xs => exact h.elim
  | bd xs => exact h.elim
  | s D gs =>
    obtain ⟨rfl, rfl⟩ := h
    obtain ⟨dx, vs, e, q, r, _⟩ := r
    exact ⟨_, dx, vs, e, q, r⟩
end
section
variable {B : Bs} {k : Nat} {f C : Str} {fs : List (Str × D)} {o : O} {d : D} {S : Sto} {Ex : XS} {Q : QO}
/-- o.f, f a field -/
theorem sAttr_f (i : IsI S o C fs) (c : ClD B.K C) (n : NoA B.K C f) (l : fs.lookup f = some d) (q : Q (.v d) S) : sAttr B k f o S Ex Q := by
  intro X en W σ H ft tk ho x' ro pins s v I rv
  obtain ⟨a, dx, vs, rfl, ea, rf⟩ := isI_at ho i ro
  obtain rfl : v = Value.ref a := rv
  rcases rf.look f with ⟨d', w, e1, e2, r⟩ | ⟨e1, _⟩
  · rw [l] at e1
    cases e1
    rw [← ft.K] at c n ea
    exact getattr_ok I ea c n e2 fun u s2 I2 ru => ⟨w, H, I2, ru, W, .v d, S, ho, .refl, r, q⟩
  · rw [l] at e1
    cases e1
def noX : XS := fun _ _ _ => False
end
section
variable {G : Cf} {X : Cx} {en : En} {W W1 : Wd} {σ : L2.St} {H H1 : Hp} {ρ : List Sl} {S S1 : Sto} {E : XD} {pins : List (Addr × Obj)} {s s1 : Shared} {e a b c o : Expr} {es : List Expr} {kws : List Keyword} {t ta tb tc te to tv : RE} {tA tK : RA} {pos p apos pos' : Pos} {x m : Str}
/-! ### methods -/
abbrev mAd (K : PySem.W.Frag) (C m : Str) : Addr := He.ma K (He.ga K C) m
/-- the object's class has the method m -/
def MtD (K : PySem.W.Frag) (m : Str) (d : D) (S : Sto) (C : Str) : Prop := ∃ fs, IsI S (.v d) C fs ∧ Cls K (He.ga K C) ∧ Meth K (He.ga K C) m (mAd K C m) ∧ fs.lookup m = none
abbrev dMeth (B : Bs) (k : Nat) (m : Str) (ks : List Str) (to : RE) (tA tK : RA) : RE := fun ρ S E Q => to ρ S E fun x S1 => ∃ d C, x = .v d ∧ MtD B.K m d S1 C ∧ tA ρ S1 E fun os S2 => ∃ ds, Sol os ds ∧ tK ρ S2 E fun zs S3 => ∃ es, Sol zs es ∧ sFun B k (.ref (mAd B.K C m)) ks (d :: ds) es S3 (E ρ) Q
abbrev MethTx (o : Expr) (m : Str) (apos pos : Pos) (es : List Expr) (kws : List Keyword) : Prop := ∀ env : Env, ∃ pl : Sem Bool, eval (.Call (.Attribute o m apos) es kws pos) env = (do
      let ov ← eval o env
      standAt apos.atName
      let (f, first) ← holding [ov] (getMethod ov m pl)
      callWith pos f first (backTo pos (starEach es env)) (backToKw pos (keywordEach kws env)))
theorem MtD.get {K : PySem.W.Frag} {m : Str} {d : D} {C : Str} {x' : V} {v : Value} {pl : Sem Bool} {A : Around} {Q : Value × List Value → Shared → Prop} {E2 : Value → Shared → Prop} (h : MtD K m d S C) (e : X.K = K) (ho : Ho K W H S) (r : Rep K W d x') (I : Inv X pins σ H s) (rv : RelV x' v) (q : Q (.ref (mAd K C m), [v]) s) :
    wpAny (model X.prog X.w) A (getMethod v m pl) Q E2 s := by
  obtain ⟨fs, i, c, mt, l⟩ := h
  subst e
  obtain ⟨a, dx, vs, rfl, ea, rf⟩ := isI_at (en := ⟨W, H, 0, none⟩) ho i r
  obtain rfl : v = Value.ref a := rv
  have l2 : vs.lookup m = none := by
    rcases rf.look m with ⟨d', w, e1, e2, r⟩ | ⟨_, e2⟩
    · rw [l] at e1
      cases e1
    · exact e2
  exact getmeth_ok I ea c mt l2 q
theorem de_me (hc : G.B.hot = false) (ho : DE G o to) (ha : DA G (e :: es) tA) (hst : ∀ env : Env, starEach (e :: es) env = (false, eval e env) :: starEach es env := by intro _; rfl) (hpl : ∀ env : Env, (backTo pos (starEach es env)).any (·.1) = false := by intro _; rfl)
    (ht : MethTx o m apos pos (e :: es) [] := by intro _; exact ⟨_, rfl⟩) : DE G (.Call (.Attribute o m apos) (e :: es) [] pos) (dMeth G.B G.k m [] to tA aNil) := by
  refine ⟨fun {X en W σ H ρ S E pins s Q} z q => ?_⟩
  obtain ⟨pl, ht⟩ := ht X.env
  refine PySem.W.methodCall_KW (pl := pl) (ho.at z q fun v s1 x' H1 W1 o1 S1 z1 g1 r1 ro ⟨d, C, eo, mt, q1⟩ => ?_) ht
  subst eo
  refine mt.get z1.hf.b.K z1.rs.ho ro z1.I r1 ?_
  have kp : PySem.W.keepIn G.B.K (.ref (mAd G.B.K C m)) = true := mt.elim fun _ h => h.2.2.1.kp
  refine PySem.W.callWith_K (first := [v]) (h₀ := X.base) z1.kin kp (ha.at pos z1 q1 fun us s2 vs H2 W2 os S2 z2 g2 r2 ro2 ⟨ds, so, es', se, q2⟩ => ⟨z2.kIn, ?_⟩) (hst _) (hpl _)
  subst so
  obtain rfl : es' = [] := by cases es' <;> first | rfl | cases se
  exact thn (z2.fn hc (ds := d :: ds) (us := v :: us) (us' := []) q2 (.cons (RepO.go g2 (o := .v d) ro) ro2) .nil (.cons r1 r2) .nil) fun _ _ => ep_back (g1.trans g2 z2.rs.ho)
theorem de_mek {ks : List Str} (hc : G.B.hot = false) (ho : DE G o to) (ha : DA G (e :: es) tA) (hk : DK G kws tK) (he : ∀ env : Env, starEach (e :: es) env = (false, eval e env) :: starEach es env := by intro _; rfl) (hall : ∀ env : Env, (backToKw pos (keywordEach kws env)).all (·.1.isSome) = true := by intro _; rfl)
    (hks : ∀ env : Env, (backToKw pos (keywordEach kws env)).filterMap (·.1) = ks := by intro _; rfl) (hpl : ∀ env : Env, ((backTo pos (starEach (e :: es) env)).any (·.1) || (backToKw pos (keywordEach kws env)).any (·.1.isNone)) = false := by intro _; rfl)
    (ht : MethTx o m apos pos (e :: es) kws := by intro _; exact ⟨_, rfl⟩) : DE G (.Call (.Attribute o m apos) (e :: es) kws pos) (dMeth G.B G.k m ks to tA tK) := by
  refine ⟨fun {X en W σ H ρ S E pins s Q} z q => ?_⟩
  obtain ⟨pl, ht⟩ := ht X.env
  refine PySem.W.methodCall_KW (pl := pl) (ho.at z q fun v s1 x' H1 W1 o1 S1 z1 g1 r1 ro ⟨d, C, eo, mt, q1⟩ => ?_) ht
  subst eo
  refine mt.get z1.hf.b.K z1.rs.ho ro z1.I r1 ?_
  have kp : PySem.W.keepIn G.B.K (.ref (mAd G.B.K C m)) = true := mt.elim fun _ h => h.2.2.1.kp
  refine PySem.W.callWith_KW (first := [v]) (h₀ := X.base) z1.kin kp (hall _) (ha.at pos z1 q1 fun us s2 vs H2 W2 os S2 z2 g2 r2 ro2 ⟨ds, so, q2⟩ => hk.at pos z2 q2 fun ws s3 zs H3 W3 os3 S3 z3 g3 r3 ro3 ⟨es', se, q3⟩ => ⟨z3.kIn, ?_⟩) (hpl _) (he _)
  subst so se
  rw [hks]
  have g23 := g2.trans g3 z3.rs.ho
  exact thn (z3.fn hc (ds := d :: ds) (us := v :: us) q3 (.cons (RepO.go g23 (o := .v d) ro) (RepOs.go g3 ro2)) ro3 (.cons r1 r2) r3) fun _ _ => ep_back (g1.trans g23 z3.rs.ho)
theorem de_mek0 {ks : List Str} (hc : G.B.hot = false) (ho : DE G o to) (hk : DK G kws tK) (hall : ∀ env : Env, (backToKw pos (keywordEach kws env)).all (·.1.isSome) = true := by intro _; rfl)
    (hks : ∀ env : Env, (backToKw pos (keywordEach kws env)).filterMap (·.1) = ks := by intro _; rfl) (hpl : ∀ env : Env, ((backTo pos (starEach [] env)).any (·.1) || (backToKw pos (keywordEach kws env)).any (·.1.isNone)) = false := by intro _; rfl)
    (ht : MethTx o m apos pos [] kws := by intro _; exact ⟨_, rfl⟩) : DE G (.Call (.Attribute o m apos) [] kws pos) (dMeth G.B G.k m ks to aNil tK) := by
  refine ⟨fun {X en W σ H ρ S E pins s Q} z q => ?_⟩
  obtain ⟨pl, ht⟩ := ht X.env
  refine PySem.W.methodCall_KW (pl := pl) (ho.at z q fun v s1 x' H1 W1 o1 S1 z1 g1 r1 ro ⟨d, C, eo, mt, ds, so, q1⟩ => ?_) ht
  subst eo
  refine mt.get z1.hf.b.K z1.rs.ho ro z1.I r1 ?_
  have kp : PySem.W.keepIn G.B.K (.ref (mAd G.B.K C m)) = true := mt.elim fun _ h => h.2.2.1.kp
  obtain rfl : ds = [] := by cases ds <;> first | rfl | cases so
  refine PySem.W.callWith_KW0 (first := [v]) (h₀ := X.base) z1.kin kp (hall _) (hk.at pos z1 q1 fun ws s2 zs H2 W2 os2 S2 z2 g2 r2 ro2 ⟨es', se, q2⟩ => ⟨z2.kIn, ?_⟩) (hpl _)
  subst se
  rw [hks]
  exact thn (z2.fn hc (ds := [d]) (us := [v]) q2 (.cons (RepO.go g2 (o := .v d) ro) .nil) ro2 (.cons r1 .nil) r2) fun _ _ => ep_back (g1.trans g2 z2.rs.ho)
theorem XN.pin {K : PySem.W.Frag} {W : Wd} {H : Hp} {σ : L2.St} {Ex : XS} (tk : Takes X (XN K W H σ Ex)) : Takes X (XN K W H σ Ex) := tk
/-! ### o.f = v -/
def dFldS (i : Nat) (f : Str) (K : PySem.W.Frag) (tv : RE) : RS := fun D ρ S => tv ρ S D.ex fun y S1 => ∃ d C fs, y = .v d ∧ ρ[i]? = some (.slf C fs) ∧ Cls K (He.ga K C) ∧ NoAttr K (He.ga K C) f ∧ fs.length < 1000 ∧ D.nx (ρ.set i (.slf C (putD f d fs))) S1
theorem ds_self {i : Nat} {f : Str} {v : Expr} (hi : G.N[i]? = some x) (hv : Vis G.sc x) (he : DE G v tv) (hd : (x == ("__debug__" : Str)) = false := by decide) (hcd : (x == ("__classdict__" : Str)) = false := by decide)
    (hs : ∀ env : Env, swapsWith v (some (.Attribute (.Name x p) f pos')) pos.line env = pure false := by intro _; rfl) : DS G (.Assign [.Attribute (.Name x p) f pos'] v pos) (dFldS i f G.B.K tv) := by
  refine ⟨fun {X en W σ H ρ S pins s D} z q => ?_⟩
  have P0 : PE X (.Name x p) (tVar i) := z.name hi hv hd hcd
  refine plainObj_wpAny_Assign_Attribute (he.at z q fun u s1 y' H1 W1 o S1 z1 g1 r1 ro ⟨d, C, fs, eo, e1, c, n, l, q1⟩ => ?_) (hs _)
  subst eo
  obtain ⟨dx, vs, e2, ea, rf, w⟩ := z1.rs.sl i _ e1
  refine thn (P0.run pins s1 σ H1 (fun v' H' => v' = .ref en.me ∧ H' = H1) z1.I ⟨_, e2, rfl, rfl⟩) fun ov s2 ⟨v', H2, I2, rx, ev, eh⟩ => ?_
  subst ev eh
  obtain rfl : ov = Value.ref en.me := rx
  have c' : Cls X.K (He.ga G.B.K C) := by rw [z.hf.b.K]; exact c
  have n' : NoAttr X.K (He.ga G.B.K C) f := by rw [z.hf.b.K]; exact n
  refine setattr_ok I2 ea c' n' (by rw [rf.len]; exact l) r1 fun s3 I3 => ?_
  exact ⟨σ, _, I3, W1, ρ.set i (.slf C (putD f d fs)), S1, z1.rs.put e1 rfl rfl e2 w ⟨dx, _, rfl, upd_same, rf.put f ro, w.f, w.e, w.m⟩, g1.le, q1⟩
/-- o an object of the store -/
def dFldP (K : PySem.W.Frag) (f : Str) (to tv : RE) : RS := fun D ρ S => tv ρ S D.ex fun y S1 => to ρ S1 D.ex fun x S2 => ∃ d j C fs, y = .v d ∧ x = .v (.ptr j) ∧ S2[j]? = some (.ins C fs) ∧ Cls K (He.ga K C) ∧ NoAttr K (He.ga K C) f ∧ fs.length < 1000 ∧ D.nx ρ (S2.set j (.ins C (putD f d fs)))
theorem ds_fld {f : Str} {v : Expr} (ho : DE G o to) (he : DE G v tv) (hs : ∀ env : Env, swapsWith v (some (.Attribute o f pos')) pos.line env = pure false := by intro _; rfl) : DS G (.Assign [.Attribute o f pos'] v pos) (dFldP G.B.K f to tv) := by
  refine ⟨fun {X en W σ H ρ S pins s D} z q => ?_⟩
  refine plainObj_wpAny_Assign_Attribute (he.at z q fun u s1 y' H1 W1 oo S1 z1 g1 r1 ro q1 => ho.at z1 q1 fun ov s2 x' H2 W2 o2 S2 z2 g2 r2 ro2 ⟨d, j, C, fs, eo, eo2, e1, c, n, l, q2⟩ => ?_) (hs _)
  subst eo eo2
  cases ro2 with
  | ptr hj =>
    obtain ⟨dx, vs, ea, rf⟩ := z2.rs.ho.cel _ _ e1
    obtain rfl : ov = Value.ref (W2.m j) := r2
    have c' : Cls X.K (He.ga G.B.K C) := by rw [z.hf.b.K]; exact c
    have n' : NoAttr X.K (He.ga G.B.K C) f := by rw [z.hf.b.K]; exact n
    refine setattr_ok z2.I ea c' n' (by rw [rf.len]; exact l) r1 fun s3 I3 => ?_
    have h3 := z2.rs.ho.put (o := .ins (He.ga G.B.K C) dx (putF f y' vs)) (c := .ins C (putD f d fs)) hj ⟨dx, _, upd_same, rf.put f (Rep.le g2.le ro)⟩
    exact ⟨σ, _, I3, W2, ρ, _, z2.rs.after h3 (Go.put hj), g1.le.trans g2.le, q2⟩
end
end Dt

set_option Elab.async false
set_option linter.all false
set_option maxRecDepth 100000
set_option maxHeartbeats 4000000
/-! DatJ: errors: raised, caught, told of -/
namespace Dt
open PySem PySem.Spec PyProof.Rows L2 My He
open PySem.HandSPX
section
variable {K : PySem.W.Frag} {en : En} {W W1 : Wd} {H H' : Hp} {S : Sto} {p : Addr} {o u : HO}
theorem Ho.frz3 (h : Ho K W H S) (n : H p = none) (k : ∀ q o, H q = some o → H' q = some o) (e : H' p = some u) : Ho K (W.frz p u) H' S where
  n := h.n
  fh := fun b x z => by
    by_cases c : b = p
    · subst c
      rw [show (W.frz b u).F b = some u from upd_same] at z
      rw [e]
      exact z
    · rw [show (W.frz p u).F b = W.F b from upd_ne c] at z
      exact k _ _ (h.fh b x z)
  inj := h.inj
  mF := fun j hj => by
    have c : W.m j ≠ p := fun c => by
      obtain ⟨u2, e2⟩ := h.there j hj
      rw [c, n] at e2
      cases e2
    show upd W.F p u (W.m j) = none
    rw [upd_ne c]
    exact h.mF j hj
  there := fun j hj => let ⟨u, e⟩ := h.there j hj; ⟨u, k _ _ e⟩
  cel := fun j c z => (h.cel j c z).le (W.frz_le (h.nF n)) fun x y => k _ _ y
theorem Go.frz3 (h : Ho K W H S) (n : H p = none) (k : ∀ q o, H q = some o → H' q = some o) : Go W H (W.frz p u) H' where
  le := W.frz_le (h.nF n)
  fn := fun b x z => by
    by_cases c : b = p
    · subst c
      exact .inr n
    · rw [show (W.frz p u).F b = W.F b from upd_ne c] at z
      exact .inl z
  kp := fun a o e _ => k _ _ e
  mn := fun i h1 h2 => absurd h2 (Nat.not_lt.mpr h1)
theorem RepF.zip : ∀ {fl : List Str} {ds : List D} {vs : List V}, fl.length = ds.length → Reps K W ds vs → RepF K W (fl.zip ds) (fl.zip vs)
  | [], _, _, _, _ => .nil
  | _ :: _, _, _, h, .nil => by cases h
  | _ :: _, _, _, h, .cons r t => .cons r (RepF.zip (Nat.succ.inj h) t)
theorem RepF.app : ∀ {xs ys : List (Str × D)} {vs us : List (Str × V)}, RepF K W xs vs → RepF K W ys us → RepF K W (xs ++ ys) (vs ++ us)
  | _, _, _, _, .nil, h => h
  | _, _, _, _, .cons r t, h => .cons r (t.app h)
theorem RepF.rev : ∀ {xs : List (Str × D)} {vs : List (Str × V)}, RepF K W xs vs → RepF K W xs.reverse vs.reverse
  | _, _, .nil => .nil
  | _, _, .cons h t => by
    rw [List.reverse_cons, List.reverse_cons]
    exact t.rev.app (.cons h .nil)
end
/-! ### raise C(..) -/
/-- C.__init__: self.f = a for each a -/
def spErrL (C : Addr) (fl : List Str) : Sp := fun vs H Q _ => ∃ (a : Addr) (ws : List V), vs = .ref a :: ws ∧ ws.length = fl.length ∧ H a = some (exo a C none) ∧
  ∀ dx H2, H dx = none → dx ≠ a → H2 a = some (exo a C (some dx)) → H2 dx = some (exd dx (fl.zip ws).reverse) → (∀ q, q ≠ a → q ≠ dx → H2 q = H q) → Q .non H2
structure ErD (B : Bs) (C : Str) (fl : List Str) : Prop where
  ok : ErrOk B.K (He.ga B.K C) (mAd B.K C "__init__")
  g : B.mg C = some (.ref (He.ga B.K C))
  fn : ∃ fd ps, FnOk B.P B.w B.K B.mg B.base CX0 1 (mAd B.K C "__init__") fd ps (spErrL (He.ga B.K C) fl) ∧ Binds B.K fd ps []
section
variable {G : Cf} {X : Cx} {en : En} {W W1 : Wd} {σ : L2.St} {H H1 : Hp} {ρ : List Sl} {S S1 : Sto} {E : XD} {pins : List (Addr × Obj)} {s s1 : Shared} {e a b c o : Expr} {es : List Expr} {kws : List Keyword} {t ta tb tc te to tv : RE} {tA tK : RA} {pos p apos pos' : Pos} {x m : Str}
def dRaise (C : Str) (fl : List Str) (tA : RA) : RS := fun D ρ S => tA ρ S D.ex fun os S1 => ∃ ds, Sol os ds ∧ ds.length = fl.length ∧ D.ex ρ C (fl.zip ds).reverse S1
theorem ds_raise {fl : List Str} (hc : G.B.hot = false) (T : ErD G.B x fl) (hg : Glb G x) (hk : 2 ≤ G.k) (ha : DA G (e :: es) tA) (hl : fl.length ≤ 1000 := by decide) (hdb : (x == ("__debug__" : Str)) = false := by decide) (he : ∀ env : Env, starEach (e :: es) env = (false, eval e env) :: starEach es env := by intro _; rfl)
    (hpl : ∀ env : Env, (backTo pos (starEach es env)).any (·.1) = false := by intro _; rfl) : DS G (.Raise (some (.Call (.Name x p) (e :: es) [] pos)) none pos') (dRaise x fl tA) := by
  refine ⟨fun {X en W σ H ρ S pins s D} z q => ?_⟩
  obtain ⟨fd, ps, F, hb⟩ := T.fn
  have ok := T.ok
  rw [← z.hf.b.K, ← z.hf.b.P, ← z.hf.b.w, ← z.hf.b.mg, ← z.hf.b.base] at F
  rw [← z.hf.b.K] at ok hb
  have hr : My.RG 2 X.A := (z.hf.b.rg hc).mono hk
  have key := L2.ps_raise (pos := pos') (z.hf.b.calm hc).1 z.tk (pmkG (p := p) (pos := pos) ok.ox (by rw [z.hf.b.K]; rw [z.hf.b.K] at ok; exact ok.iC) (by rw [z.hf.b.K]; rw [z.hf.b.K] at ok; exact ok.tI) F hr.r hb .nil (fun _ _ _ _ _ _ _ z => z.elim) (gl_of z.hf.sc hg) (by rw [z.hf.b.mg]; rw [z.hf.b.K]; exact T.g) (acan X (e :: es)) hdb (he _) (hpl _))
  refine key.run pins s σ H _ z.I fun pos2 pins' s' I => ?_
  refine ha.at pos2 (z.re I) q fun us s2 vs H1 W1 os S1 z1 g1 r1 ro ⟨ds, so, hlen, q1⟩ => ?_
  subst so
  have rr := Sol.rep ro
  refine ⟨vs, H1, z1.I, r1, by rw [rr.len, hlen]; exact hl, fun a na => ?_⟩
  refine ⟨a, vs, by rw [List.append_nil], by rw [rr.len, hlen], by rw [z.hf.b.K]; exact upd_same, fun dx H2 h1 h2 h3 h4 h5 => ⟨rfl, dx, _, h3, h4, ?_, ?_⟩⟩
  · rw [upd_ne h2] at h1
    exact h1
  rw [upd_ne h2] at h1
  have k : ∀ q o, H1 q = some o → (upd (del H2 a) dx (HO.xd (fl.zip vs).reverse)) q = some o := fun q o e => by
    have n1 : q ≠ a := ne_of_none e na
    have n2 : q ≠ dx := ne_of_none e h1
    rw [upd_ne n2, del_ne n1, h5 q n1 n2, upd_ne n1]
    exact e
  have ho3 : Ho G.B.K (W1.frz dx (.xd (fl.zip vs).reverse)) (upd (del H2 a) dx (.xd (fl.zip vs).reverse)) S1 := z1.rs.ho.frz3 h1 k upd_same
  have rf : RepF G.B.K (W1.frz dx (.xd (fl.zip vs).reverse)) (fl.zip ds).reverse (fl.zip vs).reverse := (RepF.zip hlen.symm (Reps.le (W1.frz_le (z1.rs.ho.nF h1)) rr)).rev
  exact ⟨x, _, _, ρ, S1, ⟨by rw [z.hf.b.K], .inr ⟨dx, _, rfl, upd_same, rf⟩⟩, z1.rs.after ho3 (Go.frz3 z1.rs.ho h1 k), g1.le.trans (W1.frz_le (z1.rs.ho.nF h1)), q1⟩
end
/-! ### try: .. except .. -/
inductive CT where
  | one (c : Value) | three (cs : List Value)
def CT.is (K : PySem.W.Frag) (cls : Value) : CT → Bool → Prop
  | .one c, b => PySem.W.exmOne K cls c = some b
  | .three cs, b => PySem.W.exmAny K cls cs = some true ∧ b = true
structure HC where
  ct : CT
  i : Option Nat
  ts : Addr → Value → Option Addr → TS
def endsH (oi : Option Nat) (D : Ends) : Ends := match oi with
  | none => D
  | some i => { nx := fun σ' H' => D.nx (σ'.set i none) H', rt := D.rt, bk := fun σ' H' => D.bk (σ'.set i none) H', ct := fun σ' H' => D.ct (σ'.set i none) H' }
def stH (oi : Option Nat) (σ : L2.St) (a : Addr) : L2.St := match oi with
  | none => σ
  | some i => σ.set i (some (.ref a))
def wG (K : PySem.W.Frag) (n : Nat) (Wout : WX) (D : Ends) : List HC → WX
  | [] => Wout
  | c :: r => fun cls d σ H => ∃ b, c.ct.is K cls b ∧ (b = true → ∀ a, H a = none → σ.length = n → c.ts a cls d (endsH c.i D) (stH c.i σ a) H) ∧ (b = false → wG K n Wout D r cls d σ H)
inductive CName (X : Cx) : Expr → CT → Prop
  | one {x : Str} {c : Value} {np : Pos} (h : Names X x c) : CName X (.Name x np) (.one c)
  | two {x1 x2 : Str} {C1 C2 : Addr} {p1 p2 tp : Pos} {kk : Nat} (n1 : Names X x1 (.ref C1)) (n2 : Names X x2 (.ref C2)) : CName X (.Tuple [.Name x1 p1, .Name x2 p2] kk tp) (.three [.ref C1, .ref C2])
  | three {x1 x2 x3 : Str} {C1 C2 C3 : Addr} {p1 p2 p3 tp : Pos} {kk : Nat} (n1 : Names X x1 (.ref C1)) (n2 : Names X x2 (.ref C2)) (n3 : Names X x3 (.ref C3)) : CName X (.Tuple [.Name x1 p1, .Name x2 p2, .Name x3 p3] kk tp) (.three [.ref C1, .ref C2, .ref C3])
/-- a clause's name -/
inductive AsOk (X : Cx) : Option Str → Option Nat → Prop
  | no : AsOk X none none
  | yes {n : Str} {i : Nat} (hi : X.N[i]? = some n) (hl : X.env.kindOf n = some .local) : AsOk X (some n) (some i)
inductive HGs (X : Cx) : List ExceptHandler → List HC → Prop
  | nil : HGs X [] []
  | cons {te : Expr} {on : Option Str} {c : HC} {b₀ : Stmt} {suite : List Stmt} {pos' : Pos} {hds : List ExceptHandler} {l : List HC} (hc : CName X te c.ct) (ha : AsOk X on c.i)
      (hsu : ∀ (a : Addr) (oe : Obj) (cls : Value) (d : Option Addr) (pn : List (Addr × Obj)), Zc cls d oe → (∃ vs, oe.data = .fields vs) → PSs (X.suite a ((a, oe) :: pn)) (b₀ :: suite) (c.ts a cls d)) (r : HGs X hds l) :
      HGs X (.ExceptHandler (some te) on (b₀ :: suite) pos' :: hds) (c :: l)
def tup2 (C1 C2 : Addr) : Obj := { cls := .type "tuple", data := .seq [.ref C1, .ref C2].toArray }
theorem load2 {X : Cx} {x1 x2 : Str} {C1 C2 : Addr} {p1 p2 tp : Pos} {kk : Nat} {A : Around} {s : Shared} {Q E : Value → Shared → Prop} (h : ∀ {x : Str} {C : Addr} {p : Pos} {Q2 : Value → Shared → Prop}, (x, C) ∈ [(x1, C1), (x2, C2)] → Q2 (.ref C) s → wpAny (model X.prog X.w) A (eval (.Name x p) X.env) Q2 E s)
    (q : Q (.ref s.heap.objs.size) { s with heap := s.heap.push { cls := .type "tuple", data := .seq [.ref C1, .ref C2].toArray } }) :
    wpAny (model X.prog X.w) A (eval (.Tuple [.Name x1 p1, .Name x2 p2] kk tp) X.env) Q E s := by
  refine wpAny_Tuple ?_
  show wpAny _ _ (spliced ((false, eval (.Name x1 p1) X.env) :: (false, eval (.Name x2 p2) X.env) :: [])) _ _ _
  refine Calls.spliced_cons (h (C := C1) (by simp) (Calls.spliced_cons (h (C := C2) (by simp) (Calls.spliced_nil ⟨?_, q⟩))))
  show 2 ≤ sizeLine
  rw [sizeLine_eq]
  decide
section
variable {X : Cx} {body : List Stmt} {h₀ : ExceptHandler} {hds : List ExceptHandler} {l : List HC} {pos : Pos} {tb : WX → TS} {Wout : WX}
theorem ps_tryG (hs : X.stack = X.env :: X.outer) (hf : X.env.frame = some X.env.locals) (nd : X.N.Nodup) (tk : Takes X Wout)
    (hb : ∀ (W : WX) (pn : List (Addr × Obj)) (xe : Value → Shared → Prop), Takes (X.tr pn xe) W → PassesOwn (model X.prog X.w) X.A X.env xe → PSs (X.tr pn xe) body (tb W))
    (hh : HGs X (h₀ :: hds) l) : PS X (.Try body (h₀ :: hds) [] [] pos) (fun D σ H => tb (wG X.K X.N.length Wout D l) D σ H) := by
  refine ⟨fun pins s σ H D I h => ?_⟩
  have ok := I.ok
  have hfr : X.A.frames = some (X.env :: X.outer) := by rw [ok.frames, hs]
  refine wpAny_Try_except ?_
  refine wpAny_mono ((hb (wG X.K X.N.length Wout D l) (X.pn ++ pins) (fun e s₁ => wpAny (model X.prog X.w) X.A (noteFrame e X.env) (fun _ s₂ => wpAny (model X.prog X.w) X.A (setFlight e none) (fun _ s₃ =>
    wpAny (model X.prog X.w) X.A (handleBy e X.env (h₀ :: hds)) (SP X pins D) X.xe s₃) X.xe s₂) X.xe s₁) (fun u s' xx => ?_) PassesOwn.looking).run [] s σ H D (I.toTry _) h) (fun f s1 hsp => ?_) (fun e s1 he => he)
  · obtain ⟨a, B, sI, pins', σ', H', cls, d, rfl, J', nb, up, sky, na, os, ag, w⟩ := xx
    have J : Inv X pins σ' H' sI := J'.ofTry ok
    have sky' : Sky B (X.env :: X.outer) a (Zc cls d) X.env.locals s'.heap := by rw [← hs]; exact sky
    show wpAny (model X.prog X.w) X.A (noteFrame (.ref a) X.env) _ _ _
    refine Sky.land Zc.steady hfr hf sky' fun h3 fl3 up3 => ?_
    have J3 : Inv X pins σ' H' { s' with heap := h3 } := J.landed nb fl3.1 (up.trans up3) os ag
    obtain ⟨oe3, vs3, he3, hz3, hd3⟩ := fl3.there
    have off : ∀ {h : Heap} {o : Obj} {vs : Array Value}, FlyingZ B (X.env :: X.outer) a (Zc cls d) h → h.get? a = some o → o.data = .fields vs → a ≠ X.env.locals ∧ a ∉ X.fs := fun {h o vs} f e dd => by
      have no : a ∉ frs (X.env :: X.outer) := fun m => by
        obtain ⟨_, o2, e2, nf⟩ := f.2.2.1.mem m
        rw [e] at e2
        cases e2
        exact nf _ dd
      refine ⟨fun z => no (List.mem_filterMap.mpr ⟨X.env, List.mem_cons_self, hf.trans (congrArg some z.symm)⟩), fun m => ?_⟩
      obtain ⟨en, me, q⟩ := List.mem_filterMap.mp m
      exact no (List.mem_filterMap.mpr ⟨en, List.mem_cons_of_mem _ me, q⟩)
    obtain ⟨nL, nF⟩ := off fl3 he3 hd3
    have S3 := J3.suite he3 hd3 na nL nF
    let tup := fun (C1 C2 C3 : Addr) => ({ cls := .type "tuple", data := .seq [Value.ref C1, Value.ref C2, Value.ref C3].toArray } : Obj)
    have su : ∀ {g : Heap} {on : Option Str} {c : HC} {b₀ : Stmt} {suite : List Stmt} {pos' : Pos}, FlyingZ B (X.env :: X.outer) a (Zc cls d) g → sI.heap.UpToSlots g → AsOk X on c.i →
        (∀ (a : Addr) (oe : Obj) (cls : Value) (d : Option Addr) (pn : List (Addr × Obj)), Zc cls d oe → (∃ vs, oe.data = .fields vs) → PSs (X.suite a ((a, oe) :: pn)) (b₀ :: suite) (c.ts a cls d)) →
        (∀ a, H' a = none → σ'.length = X.N.length → c.ts a cls d (endsH c.i D) (stH c.i σ' a) H') →
        codeAny (model X.prog X.w) (X.A.mark (some (.ref a))) (.handlers (.ref a) [.ExceptHandler none on (b₀ :: suite) pos'] X.env) (fun r s₂ => match r with
          | .ok f => (match on with
            | none => SP X pins D f s₂
            | some n => wpAny (model X.prog X.w) X.A (do bindName X.env n .none; unbindBehindTheSuite X.env n pos') (fun _ s₃ => SP X pins D f s₃) X.xe s₂)
          | .error x => cameBackBy (model X.prog X.w) X.A X.env X.xe x s₂) { s' with heap := g } := by
      intro g on c b₀ suite pos' fl up ha hsu hyes
      obtain ⟨ct, ci, ts⟩ := c
      cases ha with
      | no =>
        refine codeAny_handlers_suite (lands_againZ fl fun g4 fl4 u4 => ?_)
        have J4 : Inv X pins σ' H' { s' with heap := g4 } := J.landed nb fl4.1 (up.trans u4) os ag
        obtain ⟨o4, v4, e4, z4, d4⟩ := fl4.there
        obtain ⟨l4, f4⟩ := off fl4 e4 d4
        have S4 := J4.suite e4 d4 na l4 f4
        refine wpAny_mono ((hsu a o4 cls d (X.pn ++ pins) z4 ⟨_, d4⟩).run [] _ _ H' _ S4 (hyes a na J.len)) (fun f t6 q6 => ?_) fun _ _ z => z.elim
        match f, q6 with
        | .next, ⟨τ, G, S6, q⟩ => exact ⟨_, _, S6.unsuite ok, q⟩
        | .brk, ⟨τ, G, S6, q⟩ => exact ⟨_, _, S6.unsuite ok, q⟩
        | .cont, ⟨τ, G, S6, q⟩ => exact ⟨_, _, S6.unsuite ok, q⟩
        | .ret u, ⟨v, τ, G, S6, r, q⟩ => exact ⟨_, _, _, S6.unsuite ok, r, q⟩
      | @yes n i hi hl =>
        refine codeAny_handlers_suite_as (lands_againZ fl fun g4 fl4 u4 => ?_)
        have J4 : Inv X pins σ' H' { s' with heap := g4 } := J.landed nb fl4.1 (up.trans u4) os ag
        obtain ⟨o4, v4, e4, z4, d4⟩ := fl4.there
        obtain ⟨l4, f4⟩ := off fl4 e4 d4
        have S4 := J4.suite e4 d4 na l4 f4
        refine store_ok (X := X.suite a ((a, o4) :: (X.pn ++ pins))) (v := .ref a) S4 nd hi (.inl hl) rfl (fun t5 S5 => ?_) (.inr hl)
        refine wpAny_mono ((hsu a o4 cls d (X.pn ++ pins) z4 ⟨_, d4⟩).run [] t5 _ H' _ S5 (hyes a na J.len)) (fun f t6 q6 => ?_) fun _ _ z => z.elim
        have out : ∀ {τ : L2.St} {G : Hp} {R : Shared → Prop}, Inv (X.suite a ((a, o4) :: (X.pn ++ pins))) [] τ G t6 → (∀ t7, Inv X pins (τ.set i none) G t7 → R t7) →
            wpAny (model X.prog X.w) X.A (do bindName X.env n .none; unbindBehindTheSuite X.env n pos') (fun _ t7 => R t7) X.xe t6 := fun S6 k => gone_ok (S6.unsuite ok) nd hi hl k
        match f, q6 with
        | .next, ⟨τ, G, S6, q⟩ => exact out S6 fun t7 J7 => ⟨_, _, J7, q⟩
        | .brk, ⟨τ, G, S6, q⟩ => exact out S6 fun t7 J7 => ⟨_, _, J7, q⟩
        | .cont, ⟨τ, G, S6, q⟩ => exact out S6 fun t7 J7 => ⟨_, _, J7, q⟩
        | .ret u, ⟨v, τ, G, S6, r, q⟩ => exact out S6 fun t7 J7 => ⟨_, _, _, J7, r, q⟩
    have go : ∀ {hds' : List ExceptHandler} {l' : List HC}, HGs X hds' l' → wG X.K X.N.length Wout D l' cls d σ' H' →
        wpAny (model X.prog X.w) X.A (handleBy (.ref a) X.env hds') (SP X pins D) X.xe { s' with heap := h3 } := by
      intro hds' l' hk
      induction hk with
      | nil =>
        intro w
        refine wpAny_handleBy_nil ?_
        obtain ⟨k1, k2, k3, oe, vs, T, oT, ts', he, hz, hd, h1, hr⟩ := id fl3
        unfold PySem.passOn
        refine wpAny_bind (wpAny_field he hd h1 ?_)
        rw [if_neg (show ¬ ((Value.ref T == Value.none) = true) from by simp)]
        have fin : wpAny (model X.prog X.w) X.A (setFlight (.ref a) X.env.frame) (fun _ s4 => wpAny (model X.prog X.w) X.A (throw (.ref a) : Sem Flow) (SP X pins D) X.xe s4) X.xe { s' with heap := h3 } := by
          rw [hf]
          refine HandSPX.setFlight_upZ fl3 fun h4 hh4 up4 => wpAny_throw (tk _ _ ?_)
          exact ⟨a, B, sI, pins, σ', H', cls, d, rfl, J, nb, (up.trans up3).trans up4, .inr (.inr (by rw [hs]; exact hh4)), na, os, ag, w⟩
        first
          | exact wpAny_bind (wpAny_pure (wpAny_bind fin))
          | exact wpAny_bind fin
      | @cons te on c b₀ suite pos' hds2 l2 hc ha hsu r ih =>
        intro w
        obtain ⟨b, his, hyes, hno⟩ := w
        refine wpAny_handleBy_cons (codeAny_handlers_test ?_) (by intro q; cases q)
        have LT : PySem.W.Looks (model X.prog X.w) h3 (typeOf (.ref a)) cls := fun A Q E s k q => wpAny_typeOf_ref (k _ _ he3) (by rw [hz3.1]; exact q)
        obtain ⟨ct, ci, ts⟩ := c
        dsimp only at hc his ha
        cases hc with
        | @one x cv np nm =>
          have LM := PySem.W.exm_one (M := model X.prog X.w) (J3.kIn) LT his
          have test : ∀ {Q : Value → Shared → Prop} {E : Value → Shared → Prop}, Q cv { s' with heap := h3 } → wpAny (model X.prog X.w) (X.A.mark (some (.ref a))) (eval (.Name x np) X.env) Q E { s' with heap := h3 } := fun {Q E} q => by
            obtain ⟨hg, hdbg, hm | ⟨hm, hv, hnn⟩⟩ := nm
            · exact ld_glob (X := X.suite a ((a, oe3) :: (X.pn ++ pins))) S3 hg hm q hdbg
            · exact ld_blt (X := X.suite a ((a, oe3) :: (X.pn ++ pins))) S3 hg hm hv q hnn hdbg
          refine test (LM.here ?_)
          cases b with
          | true => exact su (c := ⟨.one cv, ci, ts⟩) fl3 (up.trans up3) ha hsu (hyes rfl)
          | false => exact ih (hno rfl)
        | @two x1 x2 C1 C2 p1 p2 tp kk n1 n2 =>
          obtain ⟨hany, rfl⟩ := his
          have fl2 := fly_push (tup2 C1 C2) fl3
          have kin : X.K.In (h3.push (tup2 C1 C2)) := J3.kIn.keeps fun b o e => Heap.get?_push_of_some _ e
          have LT2 : PySem.W.Looks (model X.prog X.w) (h3.push (tup2 C1 C2)) (typeOf (.ref a)) cls := fun A Q E t k q => wpAny_typeOf_ref (k _ _ (Heap.get?_push_of_some _ he3)) (by rw [hz3.1]; exact q)
          have LM := PySem.W.exm_tup2 (M := model X.prog X.w) kin LT2 (Heap.get?_push_size h3 rfl) hany
          refine load2 (X := X) (C1 := C1) (C2 := C2) (fun {x C p Q2} hm q => ?_) (LM.here ?_)
          · have nm : Names X x (.ref C) := by
              simp only [List.mem_cons, Prod.mk.injEq, List.not_mem_nil, or_false] at hm
              rcases hm with ⟨rfl, rfl⟩ | ⟨rfl, rfl⟩ <;> assumption
            obtain ⟨hg, hd, m | ⟨m, v, w⟩⟩ := nm
            · exact ld_glob (X := X.suite a ((a, oe3) :: (X.pn ++ pins))) S3 hg m q hd
            · exact ld_blt (X := X.suite a ((a, oe3) :: (X.pn ++ pins))) S3 hg m v q w hd
          · exact su (c := ⟨.three _, ci, ts⟩) fl2 ((up.trans up3).trans (.of_keeps fun b o e => Heap.get?_push_of_some _ e)) ha hsu (hyes rfl)
        | @three x1 x2 x3 C1 C2 C3 p1 p2 p3 tp kk n1 n2 n3 =>
          obtain ⟨hany, rfl⟩ := his
          have fl2 := fly_push (tup C1 C2 C3) fl3
          have kin : X.K.In (h3.push (tup C1 C2 C3)) := J3.kIn.keeps fun b o e => Heap.get?_push_of_some _ e
          have LT2 : PySem.W.Looks (model X.prog X.w) (h3.push (tup C1 C2 C3)) (typeOf (.ref a)) cls := fun A Q E t k q => wpAny_typeOf_ref (k _ _ (Heap.get?_push_of_some _ he3)) (by rw [hz3.1]; exact q)
          have LM := PySem.W.exm_tup3 (M := model X.prog X.w) kin LT2 (Heap.get?_push_size h3 rfl) hany
          refine load3 (X := X) (C1 := C1) (C2 := C2) (C3 := C3) (fun {x C p Q2} hm q => ?_) (LM.here ?_)
          · have nm : Names X x (.ref C) := by
              simp only [List.mem_cons, Prod.mk.injEq, List.not_mem_nil, or_false] at hm
              rcases hm with ⟨rfl, rfl⟩ | ⟨rfl, rfl⟩ | ⟨rfl, rfl⟩ <;> assumption
            obtain ⟨hg, hd, m | ⟨m, v, w⟩⟩ := nm
            · exact ld_glob (X := X.suite a ((a, oe3) :: (X.pn ++ pins))) S3 hg m q hd
            · exact ld_blt (X := X.suite a ((a, oe3) :: (X.pn ++ pins))) S3 hg m v q w hd
          · exact su (c := ⟨.three _, ci, ts⟩) fl2 ((up.trans up3).trans (.of_keeps fun b o e => Heap.get?_push_of_some _ e)) ha hsu (hyes rfl)
    exact go hh w
  · match f, hsp with
    | .next, ⟨σ', H', J, q⟩ => exact wpAny_execs_nil ⟨σ', H', J.ofTry ok, q⟩
    | .brk, ⟨σ', H', J, q⟩ => exact ⟨σ', H', J.ofTry ok, q⟩
    | .cont, ⟨σ', H', J, q⟩ => exact ⟨σ', H', J.ofTry ok, q⟩
    | .ret u, ⟨v, σ', H', J, r, q⟩ => exact ⟨v, σ', H', J.ofTry ok, r, q⟩
end
/-! ### .. over trees -/
def noExc (ρ : List Sl) : List Sl := ρ.map fun s => match s with
  | .exc _ _ => .un
  | s => s
theorem noExc_get {ρ : List Sl} {i : Nat} {s : Sl} (h : (noExc ρ)[i]? = some s) : (s = .un ∧ ∃ C fs, ρ[i]? = some (.exc C fs)) ∨ (ρ[i]? = some s ∧ ∀ C fs, s ≠ .exc C fs) := by
  unfold noExc at h
  rw [List.getElem?_map] at h
  cases e : ρ[i]? with
  | none =>
    rw [e] at h
    cases h
  | some t =>
    rw [e] at h
    cases t with
    | exc C fs =>
      cases h
      exact .inl ⟨rfl, C, fs, rfl⟩
    | _ =>
      cases h
      exact .inr ⟨rfl, fun _ _ z => nomatch z⟩
theorem RelS.pin {K : PySem.W.Frag} {en : En} {W : Wd} {H : Hp} {sv : Option (Option V)} {s : Sl} {q : Option (Addr × Obj)} (n : ∀ C fs, s ≠ .exc C fs) (h : RelS K en W H sv s) : RelS K { en with pin := q } W H sv s := by
  cases s with
  | exc C fs => exact absurd rfl (n C fs)
  | un => trivial
  | sh d => exact h
  | ol xs =>
    obtain ⟨a, vs, e, k, r, w⟩ := h
    exact ⟨a, vs, e, k, r, ⟨w.f, w.e, w.m⟩⟩
  | od xs =>
    obtain ⟨a, vs, e, k, r, w⟩ := h
    exact ⟨a, vs, e, k, r, ⟨w.f, w.e, w.m⟩⟩
  | slf C xs =>
    obtain ⟨a, vs, e, k, r, w⟩ := h
    exact ⟨a, vs, e, k, r, ⟨w.f, w.e, w.m⟩⟩
theorem Rs.pin {K : PySem.W.Frag} {en : En} {W : Wd} {σ : L2.St} {H : Hp} {ρ : List Sl} {S : Sto} {q : Option (Addr × Obj)} (r : Rs K en W σ H ρ S) : Rs K { en with pin := q } W σ H (noExc ρ) S where
  ho := r.ho
  go := r.go
  len := by
    unfold noExc
    rw [List.length_map]
    exact r.len
  sl := fun i s e => by
    rcases noExc_get e with ⟨rfl, _⟩ | ⟨e1, n⟩
    · trivial
    · exact (r.sl i s e1).pin n
  dis := fun i j s t a ne e1 o1 e2 o2 q1 q2 => by
    rcases noExc_get e1 with ⟨rfl, _⟩ | ⟨e1, _⟩
    · cases o1
    · rcases noExc_get e2 with ⟨rfl, _⟩ | ⟨e2, _⟩
      · cases o2
      · exact r.dis i j s t a ne e1 o1 e2 o2 q1 q2
theorem Rs.pin0 {K : PySem.W.Frag} {en : En} {W : Wd} {σ : L2.St} {H : Hp} {ρ : List Sl} {S : Sto} {q : Option (Addr × Obj)} (e : en.pin = none) (r : Rs K en W σ H ρ S) : Rs K { en with pin := q } W σ H ρ S :=
  ⟨r.ho, r.go, r.len, (fun i s e1 => (r.sl i s e1).pin fun C fs z => by
    subst z
    obtain ⟨p, e2, _⟩ := r.sl i _ e1
    rw [e] at e2
    cases e2), r.dis⟩
abbrev Cf.hot (G : Cf) : Cf := { G with B := { G.B with hot := true, gen := false }, ax := fun _ _ => True, axt := fun _ _ _ _ _ => trivial }
structure DCl where
  cs : List Str
  i : Option Nat
  su : RS
def clIs (K : PySem.W.Frag) (C : Str) : List Str → Bool → Prop
  | [c], b => PySem.W.exmOne K (.ref (ga K C)) (.ref (ga K c)) = some b
  | cs, b => PySem.W.exmAny K (.ref (ga K C)) (cs.map fun c => .ref (ga K c)) = some true ∧ b = true
def offD (oi : Option Nat) (ρ : List Sl) : List Sl := match oi with
  | none => noExc ρ
  | some i => (noExc ρ).set i .un
def stD (oi : Option Nat) (ρ : List Sl) (C : Str) (fs : List (Str × D)) : List Sl := match oi with
  | none => ρ
  | some i => ρ.set i (.exc C fs)
abbrev endsD (oi : Option Nat) (D : DEnds) : DEnds := ⟨fun ρ S => D.nx (offD oi ρ) S, fun d ρ S => D.rt d (noExc ρ) S, fun ρ S => D.bk (offD oi ρ) S, fun ρ S => D.ct (offD oi ρ) S, noE⟩
def hand (K : PySem.W.Frag) (D : DEnds) : List DCl → XD
  | [] => D.ex
  | c :: r => fun ρ C fs S => ∃ b, clIs K C c.cs b ∧ (b = true → c.su (endsD c.i D) (stD c.i ρ C fs) S) ∧ (b = false → hand K D r ρ C fs S)
inductive CNameD (G : Cf) : Expr → List Str → Prop
  | one {x : Str} {np : Pos} (g : Glb G x) (m : G.B.mg x = some (.ref (ga G.B.K x))) (hd : (x == ("__debug__" : Str)) = false) : CNameD G (.Name x np) [x]
  | two {x1 x2 : Str} {p1 p2 tp : Pos} {kk : Nat} (g1 : Glb G x1) (m1 : G.B.mg x1 = some (.ref (ga G.B.K x1))) (d1 : (x1 == ("__debug__" : Str)) = false) (g2 : Glb G x2) (m2 : G.B.mg x2 = some (.ref (ga G.B.K x2))) (d2 : (x2 == ("__debug__" : Str)) = false) : CNameD G (.Tuple [.Name x1 p1, .Name x2 p2] kk tp) [x1, x2]
  | three {x1 x2 x3 : Str} {p1 p2 p3 tp : Pos} {kk : Nat} (g1 : Glb G x1) (m1 : G.B.mg x1 = some (.ref (ga G.B.K x1))) (d1 : (x1 == ("__debug__" : Str)) = false) (g2 : Glb G x2) (m2 : G.B.mg x2 = some (.ref (ga G.B.K x2))) (d2 : (x2 == ("__debug__" : Str)) = false)
      (g3 : Glb G x3) (m3 : G.B.mg x3 = some (.ref (ga G.B.K x3))) (d3 : (x3 == ("__debug__" : Str)) = false) : CNameD G (.Tuple [.Name x1 p1, .Name x2 p2, .Name x3 p3] kk tp) [x1, x2, x3]
inductive AsD (G : Cf) : Option Str → Option Nat → Prop
  | no : AsD G none none
  | yes {n : Str} {i : Nat} (hi : G.N[i]? = some n) (hl : G.sc.names.lookup n = some .local) : AsD G (some n) (some i)
inductive DHs (G : Cf) : List ExceptHandler → List DCl → Prop
  | nil : DHs G [] []
  | cons {te : Expr} {on : Option Str} {oi : Option Nat} {cs : List Str} {su : RS} {b₀ : Stmt} {suite : List Stmt} {pos' : Pos} {hds : List ExceptHandler} {l : List DCl} (hc : CNameD G te cs) (ha : AsD G on oi) (hs : DSs G.hot (b₀ :: suite) su) (r : DHs G hds l) :
      DHs G (.ExceptHandler (some te) on (b₀ :: suite) pos' :: hds) (⟨cs, oi, su⟩ :: l)
section
variable {G : Cf} {X : Cx} {en : En} {W W0 W1 : Wd} {σ : L2.St} {H H1 : Hp} {ρ : List Sl} {S S1 : Sto} {pins : List (Addr × Obj)} {s s1 : Shared} {pos : Pos}
theorem names_of {x : Str} {C : Addr} (f : Fits G X en) (g : Glb G x) (m : G.B.mg x = some (.ref (ga G.B.K x))) (hd : (x == ("__debug__" : Str)) = false) : Names X x (.ref (ga G.B.K x)) := ⟨gl_of f.sc g, hd, .inl (by rw [f.b.mg]; exact m)⟩
def tsD (X : Cx) (st : List Stmt) : Addr → Value → Option Addr → TS := fun a cls d De σ H => ∀ (oe : Obj) (pn : List (Addr × Obj)), Zc cls d oe → (∃ vs, oe.data = .fields vs) → tBr (X.suite a ((a, oe) :: pn)) st De σ H
theorem Fits.suite (hot : G.B.hot = false) {a : Addr} {oe : Obj} {pn : List (Addr × Obj)} (f : Fits G X en) (hf : ∃ vs : Array Value, oe.data = .fields vs) : Fits G.hot (X.suite a ((a, oe) :: pn)) { en with pin := some (a, oe) } :=
  ⟨⟨f.b.P, f.b.w, f.b.K, f.b.mg, f.b.base, ⟨f.b.rm.dp, f.b.rm.un⟩, (fun _ => f.b.gd (by simp [hot])), (fun h => Bool.noConfusion h), fun p e => by
    cases e
    exact ⟨List.mem_cons_self, hf⟩, fun h => Bool.noConfusion h⟩, f.N, f.sc, f.nd, f.fn, fun _ => PassesOwn.never, f.st, trivial⟩
theorem hs_read {hds : List ExceptHandler} {l : List DCl} (hot : G.B.hot = false) (h : DHs G hds l) (f : Fits G X en) (D : DEnds) (W0 : Wd) : ∃ l', HGs X hds l' ∧ ∀ cls d σ H C fs W ρ S, W0.Le W → XRep G.B.K W C fs cls d → Rs G.B.K en W σ H ρ S → hand G.B.K D l ρ C fs S → wG X.K X.N.length (XT G.B.K en W0 D.ex) (ends G.B.K en W0 D) l' cls d σ H := by
  induction h with
  | nil => exact ⟨[], .nil, fun cls d σ H C fs W ρ S l x r q => ⟨C, fs, W, ρ, S, x, r, l, q⟩⟩
  | @cons te on oi cs su b₀ suite pos' hds l hc ha hs r ih =>
    obtain ⟨l', h1, h2⟩ := ih
    have key : ∀ cls d σ H C fs W ρ S, W0.Le W → XRep G.B.K W C fs cls d → Rs G.B.K en W σ H ρ S → su (endsD oi D) (stD oi ρ C fs) S → ∀ a, H a = none → σ.length = X.N.length → tsD X (b₀ :: suite) a cls d (endsH oi (ends G.B.K en W0 D)) (stH oi σ a) H := by
      intro cls d σ H C fs W ρ S l0 x r q a na hl oe pn hz hf pins s I
      have r1 : Rs G.B.K { en with pin := some (a, oe) } W (stH oi σ a) H (stD oi ρ C fs) S := by
        have r0 : Rs G.B.K { en with pin := some (a, oe) } W σ H ρ S := r.pin0 (f.b.np hot)
        cases oi with
        | none => exact r0
        | some i => exact r0.set i (s := .exc C fs) rfl ⟨(a, oe), rfl, rfl, by rw [hz.1, hz.2]; exact x⟩
      have back : ∀ {W' σ' H' ρ' S'}, Rs G.B.K { en with pin := some (a, oe) } W' σ' H' ρ' S' → Rs G.B.K en W' σ' H' (noExc ρ') S' := fun r => r.pin (q := en.pin)
      have z : At G.hot (X.suite a ((a, oe) :: pn)) { en with pin := some (a, oe) } W (stH oi σ a) H (stD oi ρ C fs) S (endsD oi D).ex pins s := ⟨f.suite hot hf, takes_no, r1, I⟩
      refine thn (hs.run (D := endsD oi D) z q) fun fl s2 q2 => ?_
      match fl, q2 with
      | .next, ⟨σ', H', I', W', ρ', S', r2, l2, q3⟩ =>
        refine ⟨σ', H', I', ?_⟩
        cases oi with
        | none => exact ⟨W', _, S', back r2, l0.trans l2, q3⟩
        | some i => exact ⟨W', _, S', (back r2).set i (s := .un) rfl trivial, l0.trans l2, q3⟩
      | .brk, ⟨σ', H', I', W', ρ', S', r2, l2, q3⟩ =>
        refine ⟨σ', H', I', ?_⟩
        cases oi with
        | none => exact ⟨W', _, S', back r2, l0.trans l2, q3⟩
        | some i => exact ⟨W', _, S', (back r2).set i (s := .un) rfl trivial, l0.trans l2, q3⟩
      | .cont, ⟨σ', H', I', W', ρ', S', r2, l2, q3⟩ =>
        refine ⟨σ', H', I', ?_⟩
        cases oi with
        | none => exact ⟨W', _, S', back r2, l0.trans l2, q3⟩
        | some i => exact ⟨W', _, S', (back r2).set i (s := .un) rfl trivial, l0.trans l2, q3⟩
      | .ret u, ⟨v, σ1, H', I', r0, W', σ', ρ', d, S', r2, l2, rp, q3⟩ =>
        refine ⟨v, σ1, H', I', r0, ?_⟩
        cases oi with
        | none => exact ⟨W', σ', _, d, S', back r2, l0.trans l2, rp, q3⟩
        | some i => exact ⟨W', σ', _, d, S', back r2, l0.trans l2, rp, q3⟩
    have as : AsOk X on oi := by
      cases ha with
      | no => exact .no
      | yes hi hl => exact .yes (by rw [f.N]; exact hi) (show X.env.scope.names.lookup _ = _ by rw [f.sc]; exact hl)
    have suite_ok : ∀ (a : Addr) (oe : Obj) (cls : Value) (d : Option Addr) (pn : List (Addr × Obj)), Zc cls d oe → (∃ vs, oe.data = .fields vs) → PSs (X.suite a ((a, oe) :: pn)) (b₀ :: suite) (tsD X (b₀ :: suite) a cls d) := fun a oe cls d pn hz hf =>
      ⟨fun pins s σ H D I h => h oe pn hz hf pins s I⟩
    cases hc with
    | @one x np g m hd =>
      refine ⟨⟨.one (.ref (ga G.B.K x)), oi, tsD X (b₀ :: suite)⟩ :: l', .cons (.one (names_of (C := 0) f g m hd)) as suite_ok h1, fun cls d σ H C fs W ρ S l0 xr r ⟨b, e, q1, q2⟩ => ⟨b, ?_, fun hb a na hl => key cls d σ H C fs W ρ S l0 xr r (q1 hb) a na hl, fun hb => h2 cls d σ H C fs W ρ S l0 xr r (q2 hb)⟩⟩
      show PySem.W.exmOne X.K cls _ = some b
      rw [xr.1, f.b.K]
      exact e
    | @two x1 x2 p1 p2 tp kk g1 m1 d1 g2 m2 d2 =>
      refine ⟨⟨.three [.ref (ga G.B.K x1), .ref (ga G.B.K x2)], oi, tsD X (b₀ :: suite)⟩ :: l', .cons (.two (names_of (C := 0) f g1 m1 d1) (names_of (C := 0) f g2 m2 d2)) as suite_ok h1, fun cls d σ H C fs W ρ S l0 xr r ⟨b, e, q1, q2⟩ => ⟨b, ?_, fun hb a na hl => key cls d σ H C fs W ρ S l0 xr r (q1 hb) a na hl, fun hb => h2 cls d σ H C fs W ρ S l0 xr r (q2 hb)⟩⟩
      show PySem.W.exmAny X.K cls _ = some true ∧ b = true
      rw [xr.1, f.b.K]
      exact e
    | @three x1 x2 x3 p1 p2 p3 tp kk g1 m1 d1 g2 m2 d2 g3 m3 d3 =>
      refine ⟨⟨.three [.ref (ga G.B.K x1), .ref (ga G.B.K x2), .ref (ga G.B.K x3)], oi, tsD X (b₀ :: suite)⟩ :: l', .cons (.three (names_of (C := 0) f g1 m1 d1) (names_of (C := 0) f g2 m2 d2) (names_of (C := 0) f g3 m3 d3)) as suite_ok h1, fun cls d σ H C fs W ρ S l0 xr r ⟨b, e, q1, q2⟩ => ⟨b, ?_, fun hb a na hl => key cls d σ H C fs W ρ S l0 xr r (q1 hb) a na hl, fun hb => h2 cls d σ H C fs W ρ S l0 xr r (q2 hb)⟩⟩
      show PySem.W.exmAny X.K cls _ = some true ∧ b = true
      rw [xr.1, f.b.K]
      exact e
def dTry (K : PySem.W.Frag) (tb : RS) (cl : List DCl) : RS := fun D ρ S => tb { D with ex := hand K D cl } ρ S
theorem ds_try {body : List Stmt} {h₀ : ExceptHandler} {hds : List ExceptHandler} {cl : List DCl} {tb : RS} (hot : G.B.hot = false) (tr : G.tr = true) (hb : DSs G body tb) (hh : DHs G (h₀ :: hds) cl) : DS G (.Try body (h₀ :: hds) [] [] pos) (dTry G.B.K tb cl) := by
  refine ⟨fun {X en W σ H ρ S pins s D} z q => ?_⟩
  obtain ⟨l', h1, h2⟩ := hs_read hot hh z.hf D W
  obtain ⟨hs, hf⟩ := z.hf.st tr
  have key := ps_tryG (X := X) (pos := pos) (body := body) (Wout := XT G.B.K en W D.ex) (tb := fun WX De σ H => ∀ (pn : List (Addr × Obj)) (xe : Value → Shared → Prop), Takes (X.tr pn xe) WX → PassesOwn (model X.prog X.w) X.A X.env xe → tBr (X.tr pn xe) body De σ H) hs hf z.hf.nd z.tk
    (fun WX pn xe t1 t2 => ⟨fun pins s σ H De I h => h pn xe t1 t2 pins s I⟩) h1
  refine key.run pins s σ H _ z.I fun pn xe t1 t2 pins' s' I' => ?_
  have nle : W.Le W := .refl
  have ft : Fits G (X.tr pn xe) en := ⟨⟨z.hf.b.P, z.hf.b.w, z.hf.b.K, z.hf.b.mg, z.hf.b.base, z.hf.b.rm, z.hf.b.gd, z.hf.b.cm, (fun p e => by
    rw [z.hf.b.np hot] at e
    cases e), z.hf.b.nq⟩, z.hf.N, z.hf.sc, z.hf.nd, z.hf.fn, fun _ => t2, z.hf.st, G.axt _ _ _ _ z.hf.ax⟩
  have tk : Takes (X.tr pn xe) (XT G.B.K en W (hand G.B.K D cl)) := t1.imp fun cls d σ' H' ⟨C, fs, W', ρ', S', x, r, l, q⟩ => h2 cls d σ' H' C fs W' ρ' S' l x r q
  exact hb.run (D := { D with ex := hand G.B.K D cl }) ⟨ft, tk, z.rs, I'⟩ q
/-! ### in a suite, in a def that an error is handed to -/
variable {e : Expr} {p apos : Pos} {n x : Str}
/-- e.f, e the handled error -/
abbrev dXf (K : PySem.W.Frag) (i : Nat) (f : Str) : RE := fun ρ S E Q => ∃ C fs d, ρ[i]? = some (.exc C fs) ∧ XfC K (ga K C) ∧ PySem.W.findIn K (.ref (ga K C)) f = some none ∧ fs.lookup f = some d ∧ Q (.v d) S
theorem de_xf {i : Nat} {f : Str} (hi : G.N[i]? = some x) (hv : Vis G.sc x) (hd : (x == ("__debug__" : Str)) = false := by decide) (hcd : (x == ("__classdict__" : Str)) = false := by decide) (hb : ∀ env : Env, attributeBase (.Name x p) f env (eval (.Name x p) env) = eval (.Name x p) env := by intro _; rfl) : DE G (.Attribute (.Name x p) f pos) (dXf G.B.K i f) := by
  refine ⟨fun {X en W σ H ρ S E pins s Q} z ⟨C, fs, d, e1, T, hno, l, q⟩ => ?_⟩
  have P0 : PE X (.Name x p) (tVar i) := z.name hi hv hd hcd
  obtain ⟨pp, ep, e2, hcls, hdict⟩ := z.rs.sl i _ e1
  refine attr_of (hb _) (thn (P0.run pins s σ H (fun v' H' => v' = .ref pp.1 ∧ H' = H) z.I ⟨_, e2, rfl, rfl⟩) fun u s1 ⟨v', H1, I1, rx, ev, eh⟩ => ?_)
  subst ev eh
  obtain rfl : u = Value.ref pp.1 := rx
  obtain ⟨hpn, vs, hd3⟩ := z.hf.b.pin pp ep
  obtain ⟨ha, _⟩ := I1.pin pp (List.mem_append_left _ hpn)
  rcases hdict with ⟨e0, _⟩ | ⟨dd, ws, ed, ea, rf⟩
  · rw [e0] at l
    cases l
  have ea2 := z.rs.ho.fh _ _ ea
  have hx : ObjOk X.prog X.w H1 s1.heap dd (.xd ws) := I1.hok dd _ ea2
  obtain ⟨mA, hns, hr⟩ := hx
  obtain ⟨od, ho, hl⟩ := lookIn_ns hns
  rcases rf.look f with ⟨d', w, l1, l2, rw'⟩ | ⟨l1, _⟩
  · rw [l] at l1
    cases l1
    obtain ⟨u, hu, ru⟩ := RelO.some_of (v := w) (o := mA f) (by rw [← l2]; exact hr f)
    have J : PySem.W.InstAt s1.heap pp.1 pp.2 (ga G.B.K C) (some od) := ⟨ha, hcls, by unfold PySem.W.notCls; rw [hd3] <;> rfl, by rw [ed]; exact ho⟩
    rw [← z.hf.b.K] at T hno J
    exact exc_get I1.kIn J T.ga T.gg T.exC (PySem.W.findObj_own T.hdC hno rfl (by rw [hl, hu])) (handed_of ru) ⟨w, H1, I1.tok _, ru, W, .v d, S, z.rs.ho, .refl, rw', q⟩
  · rw [l] at l1
    cases l1
end
end Dt

set_option Elab.async false
set_option linter.all false
set_option maxRecDepth 100000
set_option maxHeartbeats 4000000
/-! DatK: what the operators and built-ins give on trees -/
namespace Dt
open PySem PySem.Spec PyProof.Rows L2 My
/-! ### lifting -/
section
variable {B : Bs} {k : Nat} {S : Sto} {Ex : XS} {Q : QO}
theorem lift2 {f : Value → Value → Sem Value} {r : V → V → Hp → VK → Prop} {x y : O} (h : ∀ {X : Cx} {en : En}, FitsB B k X en → OpR X f r) (q : ∀ en W H x' y', Ho B.K W H S → RepO B.K en W H x x' → RepO B.K en W H y y' → r x' y' H (Nx B.K en W H Q)) : sem2 B k f x y S Ex Q :=
  fun X en W σ H ft tk ho x' y' rx ry pins s v u I rv ru => h ft pins s σ H x' y' v u _ I rv ru (q en W H x' y' ho rx ry)
theorem lift1 {f : Value → Sem Value} {r : V → Hp → VK → Prop} {x : O} (h : ∀ {X : Cx} {en : En}, FitsB B k X en → UnR X f r) (q : ∀ en W H x', Ho B.K W H S → RepO B.K en W H x x' → r x' H (Nx B.K en W H Q)) : sem1 B k f x S Ex Q :=
  fun X en W σ H ft tk ho x' rx pins s v I rv => h ft pins s σ H x' v _ I rv (q en W H x' ho rx)
theorem liftC {fv : Value} {r : List V → Hp → VK → Prop} {xs : List O} (h : ∀ {X : Cx} {en : En}, FitsB B k X en → CallR X fv r) (q : ∀ en W H xs', Ho B.K W H S → RepOs B.K en W H xs xs' → r xs' H (Nx B.K en W H Q)) : sCall B k fv [] xs [] S Ex Q :=
  fun X en W σ H ft tk ho xs' zs' rx rz pins s us ws I rv rw' => by
    have e : call fv us (([] : List Str).zip ws) = call fv us := rfl
    rw [e]
    exact h ft pins s σ H xs' us _ I rv (q en W H xs' ho rx)
theorem liftM {id : String} {r : V → List V → Hp → VK → Prop} {x : O} {xs : List O} (h : ∀ {X : Cx} {en : En}, FitsB B k X en → MtR X id r) (q : ∀ en W H x' xs', Ho B.K W H S → RepO B.K en W H x x' → RepOs B.K en W H xs xs' → r x' xs' H (Nx B.K en W H Q)) : sCall B k (.builtin id) [] (x :: xs) [] S Ex Q :=
  fun X en W σ H ft tk ho xs' zs' rx rz pins s us ws I rv rw' => by
    cases rx with
    | cons r1 r2 =>
      cases rv with
      | cons v1 v2 => exact h ft pins s σ H _ _ _ _ _ I v1 v2 (q en W H _ _ ho r1 r2)
theorem liftI {r : R2} {x y : O} (h : ∀ {X : Cx} {en : En}, FitsB B k X en → IxR X r) (q : ∀ en W H x' y', Ho B.K W H S → RepO B.K en W H x x' → RepO B.K en W H y y' → r x' y' H (Nx B.K en W H Q)) : sIx B k x y S Ex Q :=
  fun X en W σ H ft tk ho x' y' rx ry value slice pins s v u I rv ru hs => h ft value slice pins s σ H x' y' v u _ I rv ru (q en W H x' y' ho rx ry) hs
theorem liftS {r : V → Option Int → Option Int → Hp → VK → Prop} {x : O} {lo hi : Option Int} (h : ∀ {X : Cx} {en : En}, FitsB B k X en → SlR X r) (q : ∀ en W H x', Ho B.K W H S → RepO B.K en W H x x' → r x' lo hi H (Nx B.K en W H Q)) : sSl B k x lo hi S Q :=
  fun X en W σ H ft ho x' rx pins s v vl vu sl I rv hs pl pu => h ft pins s σ H x' v vl vu lo hi sl _ I rv hs pl pu (q en W H x' ho rx)
end
section
variable {K : PySem.W.Frag} {en : En} {W : Wd} {H : Hp} {S : Sto} {Q : QO} {d : D} {v : V} {ds : List D} {vs : List V}
/-! ### results -/
theorem nx (ho : Ho K W H S) (r : Rep K W d v) (q : Q (.v d) S) : Nx K en W H Q v H := ⟨W, .v d, S, ho, .refl, r, q⟩
theorem nxL (ho : Ho K W H S) (r : Reps K W ds vs) (q : Q (.v (.lst ds)) S) : ∀ p, H p = none → Nx K en W H Q (.ref p) (upd H p (.lst vs)) := fun p hp =>
  ⟨_, .v (.lst ds), S, ho.frz hp, Go.frz ho hp, .lst (.inl upd_same) (r.le (W.frz_le (ho.nF hp))), q⟩
theorem nxT (ho : Ho K W H S) (r : Reps K W ds vs) (q : Q (.v (.tup ds)) S) : ∀ p, H p = none → Nx K en W H Q (.ref p) (upd H p (.tup vs)) := fun p hp =>
  ⟨_, .v (.tup ds), S, ho.frz hp, Go.frz ho hp, .tup (SqT.of upd_same) (r.le (W.frz_le (ho.nF hp))), q⟩
/-- a new list: a value, or one of the store -/
abbrev NewL (S : Sto) (Q : QO) (ds : List D) : Prop := Q (.v (.lst ds)) S ∨ Q (.v (.ptr S.length)) (S ++ [.lst ds])
theorem nxN (ho : Ho K W H S) (r : Reps K W ds vs) (q : NewL S Q ds) : ∀ p, H p = none → Nx K en W H Q (.ref p) (upd H p (.lst vs)) := fun p hp => by
  rcases q with q | q
  · exact nxL ho r q p hp
  · have h2 : Ho K (W.cell p) (upd H p (.lst vs)) (S ++ [.lst ds]) := ho.cell hp ⟨vs, upd_same, r.le Wd.cell_le⟩
    have z : Rep K (W.cell p) (.ptr W.n) (.ref ((W.cell p).m W.n)) := .ptr (Nat.lt_succ_self _)
    rw [Wd.cell_new, ho.n] at z
    exact ⟨_, .v (.ptr S.length), _, h2, Go.cell ho hp, z, q⟩
/-! ### what is a list, a tuple -/
/-- the items of a list, read -/
def LsO (S : Sto) : O → List D → Prop
  | .v (.lst xs), ys => ys = xs
  | .v (.ptr i), ys => S[i]? = some (.lst ys)
  | .b xs, ys => ys = xs
  | _, _ => False
def TpO : O → List D → Prop
  | .v (.tup xs), ys => ys = xs
  | _, _ => False
def SqO (S : Sto) (o : O) (xs : List D) : Prop := LsO S o xs ∨ TpO o xs
theorem lsO_at {o : O} {xs : List D} (ho : Ho K W H S) (h : LsO S o xs) (r : RepO K en W H o v) : ∃ a vs, v = .ref a ∧ Rd H a (.lst vs) ∧ Reps K W xs vs := by
  cases o with
  | v d =>
    cases d with
    | lst ys =>
      obtain rfl : xs = ys := h
      obtain ⟨a, vs, e, q, r⟩ := Rep.lstI r
      exact ⟨a, vs, e, rd_le ho.fh q, r⟩
    | ptr i =>
      cases r
      obtain ⟨vs, e, r⟩ := ho.cel _ _ h
      exact ⟨_, vs, rfl, .inl e, r⟩
    | _ => exact h.elim
  | b ys =>
    obtain rfl : xs = ys := h
    obtain ⟨a, vs, e, q, r, _⟩ := r
    exact ⟨a, vs, e, .inl q, r⟩
  | _ => exact h.elim
theorem tpO_at {o : O} {xs : List D} (ho : Ho K W H S) (h : TpO o xs) (r : RepO K en W H o v) : ∃ a vs, v = .ref a ∧ SqT K H a vs ∧ Reps K W xs vs := by
  cases o with
  | v d =>
    cases d with
    | tup ys =>
      obtain rfl : xs = ys := h
      obtain ⟨a, vs, e, q, r⟩ := Rep.tupI r
      exact ⟨a, vs, e, sqT_le ho.fh q, r⟩
    | _ => exact h.elim
  | _ => exact h.elim
theorem sqO_at {o : O} {xs : List D} (ho : Ho K W H S) (h : SqO S o xs) (r : RepO K en W H o v) : ∃ a vs, v = .ref a ∧ (SqL K H a vs ∨ SqT K H a vs) ∧ Reps K W xs vs := by
  rcases h with h | h
  · obtain ⟨a, vs, e, q, r⟩ := lsO_at ho h r
    exact ⟨a, vs, e, .inl (.inl q), r⟩
  · obtain ⟨a, vs, e, q, r⟩ := tpO_at ho h r
    exact ⟨a, vs, e, .inr q, r⟩
theorem sqL {xs : List D} : SqO S (.v (.lst xs)) xs := .inl rfl
theorem sqB {xs : List D} : SqO S (.b xs) xs := .inl rfl
theorem sqP {i : Nat} {xs : List D} (h : S[i]? = some (.lst xs)) : SqO S (.v (.ptr i)) xs := .inl h
theorem sqT {xs : List D} : SqO S (.v (.tup xs)) xs := .inr rfl
/-! ### data -/
mutual
def pd : D → Option PyData
  | .non => some .none
  | .bl b => some (.bool b)
  | .int i => some (.int i)
  | .str x => some (.str x)
  | .lst xs => (pds xs).map .list
  | .tup xs => (pds xs).map .tuple
  | _ => none
def pds : List D → Option (List PyData)
  | [] => some []
  | x :: xs => match pd x, pds xs with
    | some d, some ds => some (d :: ds)
    | _, _ => none
end
mutual
theorem pd_dp (f : ∀ a o, W.F a = some o → H a = some o) : ∀ {d : D} {v : V} {p : PyData}, Rep K W d v → pd d = some p → Dp K H v p
  | _, _, _, .non, e => by cases e; exact .non
  | _, _, _, .bl b, e => by cases e; exact .bl b
  | _, _, _, .int b, e => by cases e; exact .int b
  | _, _, _, .str b, e => by cases e; exact .str b
  | _, _, _, .lst h r, e => by
    unfold pd at e
    cases q : pds _ with
    | none =>
      rw [q] at e
      cases e
    | some ds =>
      rw [q] at e
      cases e
      exact .lst (.inl (rd_le f h)) (pds_dp f r q)
  | _, _, _, .lsk h r, e => by
    unfold pd at e
    cases e
  | _, _, _, .adr h, e => by
    unfold pd at e
    cases e
  | _, _, _, .tup h r, e => by
    unfold pd at e
    cases q : pds _ with
    | none =>
      rw [q] at e
      cases e
    | some ds =>
      rw [q] at e
      cases e
      exact .tup (sqT_le f h) (pds_dp f r q)
theorem pds_dp (f : ∀ a o, W.F a = some o → H a = some o) : ∀ {ds : List D} {vs : List V} {ps : List PyData}, Reps K W ds vs → pds ds = some ps → DpAll K H vs ps
  | _, _, _, .nil, e => by
    cases e
    exact .nil
  | _, _, _, .cons (d := d) (ds := ds) h t, e => by
    unfold pds at e
    cases q : pd d with
    | none =>
      rw [q] at e
      cases e
    | some p =>
      cases q2 : pds ds with
      | none =>
        rw [q, q2] at e
        cases e
      | some ps =>
        rw [q, q2] at e
        cases e
        exact .cons (pd_dp f h q) (pds_dp f t q2)
end
/-- the data of what an expression gives -/
def PdO (S : Sto) (o : O) (p : PyData) : Prop := (∃ d, o = .v d ∧ pd d = some p) ∨ ∃ xs ps, LsO S o xs ∧ pds xs = some ps ∧ p = .list ps
theorem pdO_dp {o : O} {p : PyData} (ho : Ho K W H S) (h : PdO S o p) (r : RepO K en W H o v) : Dp K H v p := by
  rcases h with ⟨d, rfl, e⟩ | ⟨xs, ps, l, e, rfl⟩
  · exact pd_dp ho.fh r e
  · obtain ⟨a, vs, rfl, q, r⟩ := lsO_at ho l r
    exact .lst (.inl q) (pds_dp ho.fh r e)
theorem pdV {p : PyData} (h : pd d = some p) : PdO S (.v d) p := .inl ⟨d, rfl, h⟩
end
/-! ### ints -/
section
variable {B : Bs} {k : Nat} {S : Sto} {Ex : XS} {Q : QO} {i j : Int} {x y : Str} {b c : Bool} {a d : Nat}
theorem s_add (q : Q (.v (.int (i + j))) S) : sem2 B k (binaryOp .Add) (.v (.int i)) (.v (.int j)) S Ex Q := lift2 (fun _ => op_add) fun en W H x' y' ho rx ry => by
  cases rx
  cases ry
  exact ⟨i, j, rfl, rfl, nx ho (.int _) q⟩
theorem s_addB (q : Q (.v (.int (i + b2i b))) S) : sem2 B k (binaryOp .Add) (.v (.int i)) (.v (.bl b)) S Ex Q := lift2 (fun _ => op_add_ib) fun en W H x' y' ho rx ry => by
  cases rx
  cases ry
  exact ⟨i, b, rfl, rfl, nx ho (.int _) q⟩
theorem s_sub (q : Q (.v (.int (i - j))) S) : sem2 B k (binaryOp .Sub) (.v (.int i)) (.v (.int j)) S Ex Q := lift2 (fun _ => op_sub) fun en W H x' y' ho rx ry => by
  cases rx
  cases ry
  exact ⟨i, j, rfl, rfl, nx ho (.int _) q⟩
theorem s_mul (h : IntMulOk i j) (q : Q (.v (.int (i * j))) S) : sem2 B k (binaryOp .Mult) (.v (.int i)) (.v (.int j)) S Ex Q := lift2 (fun _ => op_mulA) fun en W H x' y' ho rx ry => by
  cases rx
  cases ry
  exact ⟨i, j, rfl, rfl, h, nx ho (.int _) q⟩
theorem s_fdiv (h : CDivW i j) (q : Q (.v (.int (i / j))) S) : sem2 B k (binaryOp .FloorDiv) (.v (.int i)) (.v (.int j)) S Ex Q := lift2 (fun _ => op_fdivW) fun en W H x' y' ho rx ry => by
  cases rx
  cases ry
  exact ⟨i, j, rfl, rfl, h, nx ho (.int _) q⟩
theorem s_mod (h : 0 < j) (q : Q (.v (.int (i % j))) S) : sem2 B k (binaryOp .Mod) (.v (.int i)) (.v (.int j)) S Ex Q := lift2 (fun _ => op_mod) fun en W H x' y' ho rx ry => by
  cases rx
  cases ry
  exact ⟨i, j, rfl, rfl, h, nx ho (.int _) q⟩
theorem s_pow (h : CPow i j) (q : Q (.v (.int (i ^ j.toNat))) S) : sem2 B k (binaryOp .Pow) (.v (.int i)) (.v (.int j)) S Ex Q := lift2 (fun _ => op_pow) fun en W H x' y' ho rx ry => by
  cases rx
  cases ry
  exact ⟨i, j, rfl, rfl, h, nx ho (.int _) q⟩
theorem s_neg (q : Q (.v (.int (-i))) S) : sem1 B k (unaryOp .USub) (.v (.int i)) S Ex Q := lift1 (fun _ => un_neg) fun en W H x' ho rx => by
  cases rx
  exact ⟨i, rfl, nx ho (.int _) q⟩
theorem s_lt (q : Q (.v (.bl (decide (i < j)))) S) : sem2 B k (compareOp .Lt) (.v (.int i)) (.v (.int j)) S Ex Q := lift2 (fun _ => op_lt) fun en W H x' y' ho rx ry => by
  cases rx
  cases ry
  exact ⟨i, j, rfl, rfl, nx ho (.bl _) q⟩
theorem s_le (q : Q (.v (.bl (decide (i ≤ j)))) S) : sem2 B k (compareOp .LtE) (.v (.int i)) (.v (.int j)) S Ex Q := lift2 (fun _ => op_le) fun en W H x' y' ho rx ry => by
  cases rx
  cases ry
  exact ⟨i, j, rfl, rfl, nx ho (.bl _) q⟩
theorem s_gt (q : Q (.v (.bl (decide (j < i)))) S) : sem2 B k (compareOp .Gt) (.v (.int i)) (.v (.int j)) S Ex Q := lift2 (fun _ => op_gt) fun en W H x' y' ho rx ry => by
  cases rx
  cases ry
  exact ⟨i, j, rfl, rfl, nx ho (.bl _) q⟩
theorem s_ge (q : Q (.v (.bl (decide (j ≤ i)))) S) : sem2 B k (compareOp .GtE) (.v (.int i)) (.v (.int j)) S Ex Q := lift2 (fun _ => op_ge) fun en W H x' y' ho rx ry => by
  cases rx
  cases ry
  exact ⟨i, j, rfl, rfl, nx ho (.bl _) q⟩
theorem s_eq (q : Q (.v (.bl (decide (i = j)))) S) : sem2 B k (compareOp .Eq) (.v (.int i)) (.v (.int j)) S Ex Q := lift2 (fun _ => op_eqI) fun en W H x' y' ho rx ry => by
  cases rx
  cases ry
  exact ⟨i, j, rfl, rfl, nx ho (.bl _) q⟩
theorem s_ne (q : Q (.v (.bl (!decide (i = j)))) S) : sem2 B k (compareOp .NotEq) (.v (.int i)) (.v (.int j)) S Ex Q := lift2 (fun _ => op_neI) fun en W H x' y' ho rx ry => by
  cases rx
  cases ry
  exact ⟨i, j, rfl, rfl, nx ho (.bl _) q⟩
theorem s_eqS (q : Q (.v (.bl (decide (x = y)))) S) : sem2 B k (compareOp .Eq) (.v (.str x)) (.v (.str y)) S Ex Q := lift2 (fun _ => op_eqS) fun en W H x' y' ho rx ry => by
  cases rx
  cases ry
  exact ⟨x, y, rfl, rfl, nx ho (.bl _) q⟩
theorem s_neS (q : Q (.v (.bl (!decide (x = y)))) S) : sem2 B k (compareOp .NotEq) (.v (.str x)) (.v (.str y)) S Ex Q := lift2 (fun _ => op_neS) fun en W H x' y' ho rx ry => by
  cases rx
  cases ry
  exact ⟨x, y, rfl, rfl, nx ho (.bl _) q⟩
theorem s_eqD {o p : O} {e f : PyData} (h1 : PdO S o e) (h2 : PdO S p f) (s1 : SeqAt.shaped e = true) (s2 : SeqAt.shaped f = true) (q : Q (.v (.bl (PyData.eqv e f))) S) : sem2 B k (compareOp .Eq) o p S Ex Q :=
  lift2 (fun ft => op_eqDK ft.K ft.units) fun en W H x' y' ho rx ry => ⟨e, f, pdO_dp ho h1 rx, pdO_dp ho h2 ry, s1, s2, nx ho (.bl _) q⟩
theorem s_neD {o p : O} {e f : PyData} (h1 : PdO S o e) (h2 : PdO S p f) (s1 : SeqAt.shaped e = true) (s2 : SeqAt.shaped f = true) (q : Q (.v (.bl (!PyData.eqv e f))) S) : sem2 B k (compareOp .NotEq) o p S Ex Q :=
  lift2 (fun ft => op_neDK ft.K ft.units) fun en W H x' y' ho rx ry => ⟨e, f, pdO_dp ho h1 rx, pdO_dp ho h2 ry, s1, s2, nx ho (.bl _) q⟩
def isNonO : O → Bool
  | .v .non => true
  | _ => false
theorem rep_non {K : PySem.W.Frag} {en : En} {W : Wd} {H : Hp} {o : O} {v : V} (r : RepO K en W H o v) : decide (v = .non) = isNonO o := by
  cases o with
  | v d => cases r <;> simp [isNonO]
  | b xs => obtain ⟨a, vs, rfl, _⟩ := r; simp [isNonO]
  | bd xs => obtain ⟨a, vs, rfl, _⟩ := r; simp [isNonO]
  | s C xs => obtain ⟨a, vs, rfl, _⟩ := r; simp [isNonO]
theorem s_isN {o : O} (q : Q (.v (.bl (isNonO o))) S) : sem2 B k (compareOp .Is) o (.v .non) S Ex Q := lift2 (fun _ => op_isN) fun en W H x' y' ho rx ry => by
  cases ry
  rw [← rep_non rx] at q
  exact ⟨rfl, nx ho (.bl _) q⟩
theorem s_isNotN {o : O} (q : Q (.v (.bl (!isNonO o))) S) : sem2 B k (compareOp .IsNot) o (.v .non) S Ex Q := lift2 (fun _ => op_notN) fun en W H x' y' ho rx ry => by
  cases ry
  rw [← rep_non rx] at q
  exact ⟨rfl, nx ho (.bl _) q⟩
/-! ### truth -/
theorem t_bl {Q : Bool → Sto → Prop} (q : Q b S) : semB B k (.v (.bl b)) S Q := fun X en W σ H ft ho x' rx pins s v I rv => by
  cases rx
  cases rv
  exact wpAny_truthy_bool ⟨H, I, W, S, ho, .refl, q⟩
/-! ### calls -/
theorem c_int (q : Q (.v (.int i)) S) : sCall B k (.type "int") [] [.v (.int i)] [] S Ex Q := liftC (fun _ => call_int1) fun en W H xs' ho rx => by
  cases rx with
  | cons r t =>
    cases t
    cases r
    exact .inl ⟨i, rfl, nx ho (.int _) q⟩
theorem c_intB (q : Q (.v (.int (if b then 1 else 0))) S) : sCall B k (.type "int") [] [.v (.bl b)] [] S Ex Q := liftC (fun _ => call_int1) fun en W H xs' ho rx => by
  cases rx with
  | cons r t =>
    cases t
    cases r
    exact .inr ⟨b, rfl, nx ho (.int _) q⟩
theorem c_abs (q : Q (.v (.int (if i < 0 then -i else i))) S) : sCall B k (.builtin "abs") [] [.v (.int i)] [] S Ex Q := liftC (fun _ => call_abs) fun en W H xs' ho rx => by
  cases rx with
  | cons r t =>
    cases t
    cases r
    exact ⟨i, rfl, nx ho (.int _) q⟩
theorem c_max (hc : B.hot = false) (q : Q (.v (.int (if j > i then j else i))) S) : sCall B k (.builtin "max") [] [.v (.int i), .v (.int j)] [] S Ex Q := liftC (fun ft => call_max2 (ft.calm hc).1) fun en W H xs' ho rx => by
  cases rx with
  | cons r t =>
    cases t with
    | cons r2 t =>
      cases t
      cases r
      cases r2
      exact ⟨i, j, rfl, nx ho (.int _) q⟩
theorem c_min (hc : B.hot = false) (q : Q (.v (.int (if j < i then j else i))) S) : sCall B k (.builtin "min") [] [.v (.int i), .v (.int j)] [] S Ex Q := liftC (fun ft => call_min2 (ft.calm hc).1) fun en W H xs' ho rx => by
  cases rx with
  | cons r t =>
    cases t with
    | cons r2 t =>
      cases t
      cases r
      cases r2
      exact ⟨i, j, rfl, nx ho (.int _) q⟩
theorem c_divmod (h : CDivW i j) (q : Q (.v (.tup [.int (i / j), .int (i % j)])) S) : sCall B k (.builtin "divmod") [] [.v (.int i), .v (.int j)] [] S Ex Q := liftC (fun _ => call_divmodA) fun en W H xs' ho rx => by
  cases rx with
  | cons r t =>
    cases t with
    | cons r2 t =>
      cases t
      cases r
      cases r2
      exact ⟨i, j, rfl, h, nxT ho (.cons (.int _) (.cons (.int _) .nil)) q⟩
theorem c_len {o : O} {xs : List D} (h : SqO S o xs) (q : Q (.v (.int xs.length)) S) : sCall B k (.builtin "len") [] [o] [] S Ex Q := liftC (fun ft => call_lenK ft.K) fun en W H xs' ho rx => by
  cases rx with
  | cons r t =>
    cases t
    obtain ⟨a, vs, rfl, e, rr⟩ := sqO_at ho h r
    rw [← rr.len] at q
    exact ⟨a, vs, rfl, e, nx ho (.int _) q⟩
theorem c_list {o : O} {xs : List D} (h : SqO S o xs) (q : NewL S Q xs) : sCall B k (.type "list") [] [o] [] S Ex Q := liftC (fun ft => call_listK ft.K) fun en W H xs' ho rx => by
  cases rx with
  | cons r t =>
    cases t
    obtain ⟨a, vs, rfl, e, rr⟩ := sqO_at ho h r
    exact ⟨a, vs, rfl, e, nxN ho rr q⟩
theorem c_tuple {o : O} {xs : List D} (h : SqO S o xs) (q : Q (.v (.tup xs)) S) : sCall B k (.type "tuple") [] [o] [] S Ex Q := liftC (fun ft => call_tupleK ft.K) fun en W H xs' ho rx => by
  cases rx with
  | cons r t =>
    cases t
    rcases h with h | h
    · obtain ⟨a, vs, rfl, e, rr⟩ := lsO_at ho h r
      exact ⟨a, vs, rfl, .inl ⟨.inl e, nxT ho rr q⟩⟩
    · obtain ⟨a, vs, rfl, e, rr⟩ := tpO_at ho h r
      cases o with
      | v d =>
        cases d with
        | tup ys =>
          obtain rfl : xs = ys := h
          exact ⟨a, vs, rfl, .inr ⟨e, nx ho r q⟩⟩
        | _ => exact h.elim
      | _ => exact h.elim
theorem c_repr {o : O} {p : PyData} (h : PdO S o p) (h0 : p.hasDict = false) (h1 : p.showable = true) (h2 : p.depth ≤ 50) (h3 : p.shown.length ≤ sizeLine) (q : Q (.v (.str p.shown)) S) (hgn : B.gn = false := by rfl) : sCall B k (.builtin "repr") [] [o] [] S Ex Q :=
  liftC (r := rReprT B.K) (fun ft => by
    have z := call_reprTg (X := _) (ft.gd hgn) ft.units
    rw [ft.K] at z
    exact z) fun en W H xs' ho rx => by
  cases rx with
  | cons r t =>
    cases t
    exact ⟨_, p, rfl, .pl (pdO_dp ho h r) h0, h1, h2, h3, nx ho (.str _) q⟩
/-! ### subscripts -/
theorem Reps.atI {K : PySem.W.Frag} {W : Wd} {ds : List D} {vs : List V} {d : D} (r : Reps K W ds vs) (h : atI ds i = some d) : ∃ v, L2.atI vs i = some v ∧ Rep K W d v := by
  unfold L2.atI at h ⊢
  rw [r.len]
  cases e : ixN ds.length i with
  | none =>
    rw [e] at h
    cases h
  | some j =>
    rw [e] at h
    obtain ⟨v, e2, rv⟩ := r.at (show ds[j]? = some d from h)
    exact ⟨v, e2, rv⟩
theorem s_ixL {o : O} {xs : List D} {d : D} (h : LsO S o xs) (e : L2.atI xs i = some d) (q : Q (.v d) S) : sIx B k o (.v (.int i)) S Ex Q := liftI (fun ft => ix_listK ft.K) fun en W H x' y' ho rx ry => by
  cases ry
  obtain ⟨a, vs, rfl, e1, rr⟩ := lsO_at ho h rx
  obtain ⟨v, e2, rv⟩ := rr.atI e
  exact ⟨a, vs, i, v, rfl, rfl, .inl e1, e2, nx ho rv q⟩
theorem s_ixT {xs : List D} {d : D} (e : L2.atI xs i = some d) (q : Q (.v d) S) : sIx B k (.v (.tup xs)) (.v (.int i)) S Ex Q := liftI (fun ft => ix_tupK ft.K) fun en W H x' y' ho rx ry => by
  cases ry
  obtain ⟨a, vs, rfl, e1, rr⟩ := Rep.tupI rx
  obtain ⟨v, e2, rv⟩ := rr.atI e
  exact ⟨a, vs, i, v, rfl, rfl, sqT_le ho.fh e1, e2, nx ho rv q⟩
/-! ### slices -/
def cutD (xs : List D) (lo hi : Option Int) : List D := (xs.drop (HT.sIx xs.length 0 lo)).take (HT.sIx xs.length xs.length hi - HT.sIx xs.length 0 lo)
theorem Reps.cut {K : PySem.W.Frag} {W : Wd} {ds : List D} {vs : List V} (r : Reps K W ds vs) (lo hi : Option Int) : Reps K W (cutD ds lo hi) (L2.cutV vs lo hi) := by
  unfold cutD L2.cutV
  rw [r.len]
  exact (r.drop _).take _
/-! ### lists and tuples put together -/
def rCatQ : R2 := fun x y H Q => ∃ l b xs zs, x = .ref l ∧ y = .ref b ∧ Rd H l (.lst xs) ∧ Rd H b (.lst zs) ∧ xs.length + zs.length ≤ sizeLine ∧ ∀ p, H p = none → Q (.ref p) (upd H p (.lst (xs ++ zs)))
theorem lstR {X : Cx} {pins : List (Addr × Obj)} {σ : L2.St} {H : Hp} {s : Shared} {l : Addr} {xs : List V} (I : Inv X pins σ H s) (hH : Rd H l (.lst xs)) : xs.length ≤ sizeLine ∧ ∃ (its : List Value) (n : Nat), Vals xs its ∧ xs.length = its.length ∧ s.heap.get? l = some { cls := .type "list", data := .seq its.toArray n } := by
  obtain ⟨z, its, n, r, e⟩ := hH.ok I.hok
  exact ⟨z, its, n, r, r.length, e⟩
theorem op_catQ {X : Cx} : OpR X (binaryOp .Add) rCatQ := by
  intro pins s σ H x y v u Q I rx ry h
  obtain ⟨l, b, xs, zs, rfl, rfl, hH, hB, hz, q⟩ := h
  cases rx
  cases ry
  obtain ⟨z, its, n, r, hl, e⟩ := lstR I hH
  obtain ⟨z2, its2, n2, r2, hl2, e2⟩ := lstR I hB
  refine PySem.P.add_list e e2 ?_ (by rw [List.size_toArray, List.size_toArray]; omega)
  have ea : its.toArray ++ its2.toArray = (its ++ its2).toArray := by simp
  rw [ea]
  exact ⟨.ref _, _, I.lnew (t' := s.toks) (r.append r2) (by rw [List.length_append]; omega), rfl, q _ I.fresh⟩
theorem s_cat {o p : O} {xs ys : List D} (h1 : LsO S o xs) (h2 : LsO S p ys) (h3 : xs.length + ys.length ≤ sizeLine) (q : NewL S Q (xs ++ ys)) : sem2 B k (binaryOp .Add) o p S Ex Q := lift2 (fun ft => op_catQ) fun en W H x' y' ho rx ry => by
  obtain ⟨a, vs, rfl, e1, rr⟩ := lsO_at ho h1 rx
  obtain ⟨b, us, rfl, e2, rr2⟩ := lsO_at ho h2 ry
  exact ⟨a, b, vs, us, rfl, rfl, e1, e2, by rw [rr.len, rr2.len]; exact h3, nxN ho (rr.app rr2) q⟩
end
end Dt

set_option Elab.async false
set_option linter.all false
set_option maxRecDepth 100000
set_option maxHeartbeats 4000000
/-! DatL: more of what operators, methods and built-ins give on trees -/
namespace Dt
open PySem PySem.Spec PyProof.Rows L2 My
section
variable {B : Bs} {k : Nat} {S : Sto} {Ex : XS} {Q : QO} {i j : Int} {x y : Str} {b c : Bool} {a d : Nat}
theorem Reps.rep {K : PySem.W.Frag} {W : Wd} {ds : List D} {vs : List V} (r : Reps K W ds vs) : ∀ n : Nat, Reps K W (List.replicate n ds).flatten (List.replicate n vs).flatten
  | 0 => .nil
  | n + 1 => by
    rw [List.replicate_succ, List.replicate_succ, List.flatten_cons, List.flatten_cons]
    exact r.app (Reps.rep r n)
def eqF : D → D → Bool
  | .non, .non => true
  | .bl a, .bl b => a == b
  | .int a, .int b => a == b
  | .str a, .str b => a == b
  | .bl a, .int b => (if a then 1 else 0) == b
  | .int a, .bl b => a == (if b then 1 else 0)
  | _, _ => false
theorem cell_lt {K : PySem.W.Frag} {W : Wd} {H : Hp} {n : Nat} {c : Cell} (ho : Ho K W H S) (e : S[n]? = some c) : n < W.n := by
  rw [ho.n]
  exact (List.getElem?_eq_some_iff.mp e).1
/-! ### lists of ints, of truth values -/
theorem Reps.ints {K : PySem.W.Frag} {W : Wd} : ∀ {ns : List Int} {vs : List V}, Reps K W (ns.map D.int) vs → vs = ns.map V.int
  | [], _, .nil => rfl
  | _ :: _, _, .cons h t => by
    cases h
    rw [Reps.ints t] <;> rfl
theorem Reps.bls {K : PySem.W.Frag} {W : Wd} : ∀ {ns : List Bool} {vs : List V}, Reps K W (ns.map D.bl) vs → vs = ns.map V.bl
  | [], _, .nil => rfl
  | _ :: _, _, .cons h t => by
    cases h
    rw [Reps.bls t] <;> rfl
theorem reps_ints {K : PySem.W.Frag} {W : Wd} : ∀ ns : List Int, Reps K W (ns.map D.int) (ns.map V.int)
  | [] => .nil
  | n :: ns => .cons (.int n) (reps_ints ns)
theorem c_all {o : O} {bs : List Bool} (hc : B.hot = false) (h : LsO S o (bs.map .bl)) (q : Q (.v (.bl (bs.all id))) S) : sCall B k (.builtin "all") [] [o] [] S Ex Q := liftC (r := rAll B.K) (fun {X en} ft => by
  have z := cr_all (X := X) (ft.calm hc).1
  rw [ft.K] at z
  exact z) fun en W H xs' ho rx => by
  cases rx with
  | cons r t =>
    cases t
    obtain ⟨a, vs, rfl, e, rr⟩ := lsO_at ho h r
    rw [rr.bls] at e
    exact ⟨a, bs, rfl, .inl e, nx ho (.bl _) q⟩
theorem c_any {o : O} {bs : List Bool} (hc : B.hot = false) (h : LsO S o (bs.map .bl)) (q : Q (.v (.bl (bs.any id))) S) : sCall B k (.builtin "any") [] [o] [] S Ex Q := liftC (r := rAny B.K) (fun {X en} ft => by
  have z := cr_any (X := X) (ft.calm hc).1
  rw [ft.K] at z
  exact z) fun en W H xs' ho rx => by
  cases rx with
  | cons r t =>
    cases t
    obtain ⟨a, vs, rfl, e, rr⟩ := lsO_at ho h r
    rw [rr.bls] at e
    exact ⟨a, bs, rfl, .inl e, nx ho (.bl _) q⟩
theorem c_sorted {o : O} {ns : List Int} (h : LsO S o (ns.map .int)) (q : ∀ ms : List Int, ms.Perm ns → ms.Pairwise (· ≤ ·) → NewL S Q (ms.map .int)) : sCall B k (.builtin "sorted") [] [o] [] S Ex Q := liftC (r := rSortedI B.K) (fun {X en} ft => by
  have z := cr_sortedI (X := X)
  rw [ft.K] at z
  exact z) fun en W H xs' ho rx => by
  cases rx with
  | cons r t =>
    cases t
    obtain ⟨a, vs, rfl, e, rr⟩ := lsO_at ho h r
    rw [rr.ints] at e
    exact ⟨a, ns, rfl, .inl e, fun ms p h1 h2 hp => nxN ho (reps_ints ms) (q ms h1 h2) p hp⟩
end
end Dt

set_option Elab.async false
set_option linter.all false
set_option maxRecDepth 100000
set_option maxHeartbeats 4000000
/-! DatM: stores by subscript, chains of comparisons, operators of own classes, staticmethods -/
namespace Dt
open PySem PySem.Spec PyProof.Rows L2 My
/-! ### o[i] = v -/
def sSet (B : Bs) (k : Nat) (o i : O) (d : D) (S : Sto) (Q : Sto → Prop) : Prop :=
  ∀ (X : Cx) (en : En) (W : Wd) (σ : L2.St) (H : Hp), FitsB B k X en → Ho B.K W H S → ∀ o' i' v', RepO B.K en W H o o' → RepO B.K en W H i i' → Rep B.K W d v' →
    ∀ (pins : List (Addr × Obj)) (s : Shared) (ov iv u : Value), Inv X pins σ H s → RelV o' ov → RelV i' iv → RelV v' u → wpAny (model X.prog X.w) X.A (setItem ov iv u) (fun _ s' => ∃ H' S', Inv X pins σ H' s' ∧ Ho B.K W H' S' ∧ Go W H W H' ∧ Q S') X.xe s
section
variable {B : Bs} {k : Nat} {S : Sto} {Q : Sto → Prop} {d : D}
theorem set_L {n l : Nat} {i : Int} {xs : List D} (e : S[n]? = some (.lst xs)) (h : ixN xs.length i = some l) (q : Q (S.set n (.lst (xs.set l d)))) : sSet B k (.v (.ptr n)) (.v (.int i)) d S Q := by
  intro X en W σ H ft ho o' i' v' ro ri rd pins s ov iv u I r1 r2 r3
  cases ro
  cases ri
  obtain ⟨vs, e1, rr⟩ := ho.cel _ _ e
  refine thn (set_list pins s σ H _ _ _ ov iv u (fun H' => ∃ S', Ho B.K W H' S' ∧ Go W H W H' ∧ Q S') I r1 r2 r3 ⟨_, vs, i, l, rfl, rfl, e1, by rw [rr.len]; exact h, ?_⟩) fun _ s' ⟨H', I', S', h1, h2, h3⟩ => ⟨H', S', I', h1, h2, h3⟩
  exact ⟨_, ho.put (c := .lst (xs.set l d)) (cell_lt ho e) ⟨_, upd_same, rr.set rd l⟩, Go.put (cell_lt ho e), q⟩
theorem set_K {n : Nat} {i : Key} {xs : List (Key × D)} (e : S[n]? = some (.dct xs)) (h : xs.length < sizeLine) (q : Q (S.set n (.dct (putKD xs i d)))) : sSet B k (.v (.ptr n)) (.v (kD i)) d S Q := by
  intro X en W σ H ft ho o' i' v' ro ri rd pins s ov iv u I r1 r2 r3
  cases ro
  obtain rfl := rep_key ri
  obtain ⟨vs, e1, rr⟩ := ho.cel _ _ e
  obtain rfl : ov = Value.ref (W.m n) := r1
  refine d_setItem (by have := ft.units; omega) I (DPut.k e1 (by rw [rr.len]; exact h)) r2 r3 fun s4 I4 => ⟨_, _, I4, ho.put (c := .dct (putKD xs i d)) (cell_lt ho e) ⟨_, upd_same, rr.put i rd⟩, Go.put (cell_lt ho e), q⟩
end
section
variable {G : Cf} {X : Cx} {en : En} {W W1 : Wd} {σ : L2.St} {H H1 : Hp} {ρ : List Sl} {S S1 : Sto} {E : XD} {pins : List (Addr × Obj)} {s s1 : Shared} {e a b c o : Expr} {es : List Expr} {t ta tb tc te to ti : RE} {tA tK : RA} {pos p apos pos' : Pos} {x m : Str}
abbrev gSub (B : Bs) (k : Nat) (ta tb : RE) : RG := fun d ρ S E Q => ta ρ S E fun x S1 => tb ρ S1 E fun y S2 => sSet B k x y d S2 fun S3 => Q ρ S3
def dSub (B : Bs) (k : Nat) (ta tb tv : RE) : RS := fun D ρ S => tv ρ S D.ex fun v S1 => ∃ d, v = .v d ∧ ta ρ S1 D.ex fun x S2 => tb ρ S2 D.ex fun y S3 => sSet B k x y d S3 fun S4 => D.nx ρ S4
theorem ds_sub {tv : RE} (ha : DE G a ta) (hb : DE G b tb) (hv : DE G e tv) (hs : ∀ env : Env, swapsWith e (some (.Subscript a b pos')) pos.line env = pure false := by intro _; rfl) : DS G (.Assign [.Subscript a b pos'] e pos) (dSub G.B G.k ta tb tv) := by
  refine ⟨fun {X en W σ H ρ S pins s D} z q => ?_⟩
  refine wpAny_Assign_Subscript (hv.at z q fun u s1 v' H1 W1 o1 S1 z1 g1 r1 ro ⟨d, eo, q1⟩ => ha.at z1 q1 fun ov s2 x' H2 W2 o2 S2 z2 g2 r2 ro2 q2 => hb.at z2 q2 fun iv s3 y' H3 W3 o3 S3 z3 g3 r3 ro3 q3 => ?_) (hs _)
  subst eo
  refine thn (q3 X en W3 σ H3 z3.hf.b z3.rs.ho x' y' v' (ro2.go g3) ro3 (Rep.le (g2.le.trans g3.le) ro) pins s3 ov iv u z3.I r2 r3 r1) fun _ s4 ⟨H4, S4, I4, h4, g4, q4⟩ => ?_
  exact ⟨σ, H4, I4, W3, ρ, S4, z3.rs.after h4 g4, (g1.le.trans g2.le).trans g3.le, q4⟩
abbrev tChain (B : Bs) (k : Nat) (op op' : CmpOp) (ta tb tc : RE) : RT := fun ρ S E Q => ta ρ S E fun x S1 => tb ρ S1 E fun y S2 => sem2 B k (compareOp op) x y S2 (E ρ) fun z S3 => ∃ b, z = .v (.bl b) ∧ if b = true then tc ρ S3 E fun w S4 => sem2 B k (compareOp op') y w S4 (E ρ) fun z S5 => semB B k z S5 Q else Q false S3
end
/-! ### operators of own classes -/
section
variable {B : Bs} {k : Nat} {S : Sto} {Ex : XS} {Q : QO} {d e : D} {C C2 : Str} {fs gs : List (Str × D)} {f : Addr} {n : Str}
theorem takes_nox2 {X : Cx} {K : PySem.W.Frag} {W : Wd} {H : Hp} {σ : L2.St} : Takes X (XN K W H σ noX) := fun u s' ⟨a, B, sI, pins, σ, H, cls, d, e, I, nb, up, sky, na, os, ag, e2, C, fs, W, S, x, h, g, q⟩ => q.elim
/-- what an own def gives, called within a built-in -/
theorem sFun.in {ds : List D} {X : Cx} {en : En} {W : Wd} {σ : L2.St} {H : Hp} {pins : List (Addr × Obj)} {s : Shared} {A : Around} {vs : List V} {us : List Value} (h : sFun B k (.ref f) [] ds [] S noX Q) (hr : My.RG k A) (ft : FitsB B k X en) (e0 : Env0 X.prog X.w X.K X.mg X.base A X.stack s H) (ho : Ho B.K W H S) (rd : Reps B.K W ds vs) (I : Inv X pins σ H s) (rv : Vals vs us)
    {P : Value → Shared → Prop} (hP : ∀ v o u s' H' W' S', Inv X pins σ H' s' → RelV v u → Ho B.K W' H' S' → Go W H W' H' → RepO B.K en W' H' o v → Q o S' → P u s') {E2 : Value → Shared → Prop} : wpAny (model X.prog X.w) A (call (.ref f) us) P E2 s := by
  rw [ft.P, ft.w, ft.K, ft.mg, ft.base] at e0
  have KX : B.K.In s.heap := by rw [← ft.K]; exact I.kIn
  have key := h A X.stack s W H en σ vs [] us [] hr e0 KX ho rd .nil rv .nil
  rw [← ft.P, ← ft.w] at key
  refine wpAny_call (codeAny_mono key fun y s' hq => ?_)
  match y, hq with
  | .error er, hq => exact (passAt (X := X.nox) (W := XN B.K W H σ noX) takes_nox2 σ pins H s er s' (I.wish _) hq).elim
  | .ok (.ret u), hq =>
    obtain ⟨v, H', I3, rv, W', o, S', h1, g1, ro, q⟩ := I.after hq
    exact hP v o u s' H' W' S' I3 rv h1 g1 ro q
/-! other kinds -/
/-- the built-in type of what is no own object -/
def KdO (S : Sto) : O → String → Prop
  | .v .non, T => T = "NoneType"
  | .v (.bl _), T => T = "bool"
  | .v (.int _), T => T = "int"
  | .v (.str _), T => T = "str"
  | .v (.lst _), T => T = "list"
  | .v (.tup _), T => T = "tuple"
  | .v (.dct _), T => T = "dict"
  | .b _, T => T = "list"
  | .bd _, T => T = "dict"
  | .v (.ptr i), T => (T = "list" ∧ ∃ xs, S[i]? = some (.lst xs)) ∨ (T = "dict" ∧ ∃ xs, S[i]? = some (.dct xs))
  | _, _ => False
end
end Dt

set_option Elab.async false
set_option linter.all false
set_option maxRecDepth 100000
set_option maxHeartbeats 4000000
/-! DatN: dicts: displays, comprehensions, keys asked, read, stored, dropped; zip; staticmethods -/
namespace Dt
open PySem PySem.Spec PyProof.Rows L2 My
section
variable {G : Cf} {X : Cx} {en : En} {W W1 : Wd} {σ : L2.St} {H H1 : Hp} {ρ : List Sl} {S S1 : Sto} {E : XD} {pins : List (Addr × Obj)} {s s1 : Shared} {e a b c o tg : Expr} {es : List Expr} {t ta tb tc te to ti : RE} {tA tK : RA} {pos p apos : Pos} {x m : Str}
abbrev RFd := List Sl → Sto → XD → (List (Key × D) → Sto → Prop) → Prop
/-- a new dict: a value, or one of the store -/
abbrev NewD (S : Sto) (Q : QO) (ds : List (Key × D)) : Prop := Q (.v (.dct ds)) S ∨ Q (.v (.ptr S.length)) (S ++ [.dct ds])
abbrev dDc (tf : RFd) : RE := fun ρ S E Q => tf ρ S E fun kvs S1 => NewD S1 Q kvs
abbrev dDnew : RE := fun ρ S _ Q => NewD S Q []
theorem de_dnew : DE G (.Dict [] [] pos) dDnew := by
  refine ⟨fun {X en W σ H ρ S E pins s Q} z q => ?_⟩
  refine (pe_dnewK (X := X)).run pins s σ H _ z.I fun p hp => ?_
  rcases q with q | q
  · exact ⟨_, .v (.dct []), S, z.rs.ho.frz hp, Go.frz z.rs.ho hp, .dct upd_same .nil, q⟩
  · have h2 : Ho G.B.K (W.cell p) (upd H p (.dK [])) (S ++ [.dct []]) := z.rs.ho.cell hp ⟨[], upd_same, .nil⟩
    have y : Rep G.B.K (W.cell p) (.ptr W.n) (.ref ((W.cell p).m W.n)) := .ptr (Nat.lt_succ_self _)
    rw [Wd.cell_new, z.rs.ho.n] at y
    exact ⟨_, .v (.ptr S.length), _, h2, Go.cell z.rs.ho hp, y, q⟩
/-! ### zip -/
def zipD : List D → List D → List D
  | x :: xs, y :: ys => .tup [x, y] :: zipD xs ys
  | _, _ => []
theorem zipD_len : ∀ xs ys : List D, (zipD xs ys).length = min xs.length ys.length
  | [], _ => by simp [zipD]
  | _ :: _, [] => by simp [zipD]
  | _ :: xs, _ :: ys => by
    rw [zipD, List.length_cons, zipD_len xs ys]
    simp only [List.length_cons]
    omega
theorem zipD_get : ∀ {xs ys : List D} {i : Nat} {x y : D}, xs[i]? = some x → ys[i]? = some y → (zipD xs ys)[i]? = some (.tup [x, y])
  | [], _, _, _, _, h, _ => by simp at h
  | _ :: _, [], _, _, _, _, h => by simp at h
  | _ :: xs, _ :: ys, 0, x, y, h1, h2 => by
    simp only [List.getElem?_cons_zero, Option.some.injEq] at h1 h2
    subst h1 h2
    rfl
  | _ :: xs, _ :: ys, i + 1, x, y, h1, h2 => by
    rw [zipD, List.getElem?_cons_succ]
    exact zipD_get (by simpa using h1) (by simpa using h2)
theorem Wk.zip {K : PySem.W.Frag} {a b : Addr} {xs ys : List D} {vs us : List V} (h : Rd W.F a (.lst vs)) (h2 : Rd W.F b (.lst us)) (r : Reps K W xs vs) (r2 : Reps K W ys us) : Wk K W (Itz K a b) (zipD xs ys) where
  go := fun i W' H' S' l ho hi => by
    rw [zipD_len] at hi
    have hv : i < vs.length := by rw [r.len]; omega
    have hu : i < us.length := by rw [r2.len]; omega
    exact ⟨vs, us, vs[i], us[i], .inl (rd_le ho.fh (rd_le l.f h)), .inl (rd_le ho.fh (rd_le l.f h2)), List.getElem?_eq_getElem hv, List.getElem?_eq_getElem hu⟩
  yl := fun i W' H' S' x H2 l ho hi ⟨T, x1, y1, e, hT, eH, k1, k2⟩ => by
    subst e eH
    obtain ⟨d, e1, rd⟩ := r.get (k1 vs (.inl (rd_le ho.fh (rd_le l.f h))))
    obtain ⟨d2, e2, rd2⟩ := r2.get (k2 us (.inl (rd_le ho.fh (rd_le l.f h2))))
    exact ⟨_, W'.frz T (.tup [x1, y1]), zipD_get e1 e2, ho.frz hT, Go.frz ho hT, .tup (SqT.of upd_same) (.cons ((rd.le l).le (W'.frz_le (ho.nF hT))) (.cons ((rd2.le l).le (W'.frz_le (ho.nF hT))) .nil))⟩
  st := fun i W' H' S' l ho hi => by
    rw [zipD_len] at hi
    exact ⟨vs, us, .inl (rd_le ho.fh (rd_le l.f h)), .inl (rd_le ho.fh (rd_le l.f h2)), by rw [r.len, r2.len]; omega⟩
/-! ### C.m(..), m a staticmethod -/
structure SMet (K : PySem.W.Frag) (C : Addr) (m : Str) (g : Addr) : Prop where
  rd : ClX.CRead K C (.type "type")
  at_ : ∃ p, PySem.W.findCls K (.ref C) (.type "type") m = some (.get (.builtin "staticmethod.__get__") (.ref p) .none (.ref C)) ∧ ∃ rest, PySem.W.recIn K p "staticmethod" = some (.ref g :: rest)
  kp : PySem.W.keepIn K (.ref g) = true
theorem SMet.get {C g : Addr} {pl : Sem Bool} {A : Around} {Q : Value × List Value → Shared → Prop} {E2 : Value → Shared → Prop} (k : SMet X.K C m g) (I : Inv X pins σ H s) (q : ∀ s', Inv X pins σ H s' → Q (.ref g, []) s') : wpAny (model X.prog X.w) A (getMethod (.ref C) m pl) Q E2 s := by
  obtain ⟨pp, h1, rest, h2⟩ := k.at_
  refine PySem.W.method_cls I.kIn k.rd.ga (PySem.W.cls_bind I.kIn k.rd.rd h1 ?_)
  refine wpAny_call (PySem.W.sm_get (s := { s with toks := s.toks + 1 }) I.kIn h2 (PySem.W.handed_on rfl ?_))
  exact q _ (I.tok _)
end
/-! ### dicts asked -/
section
variable {B : Bs} {k : Nat} {S : Sto} {Ex : XS} {Q : QO} {i : Key}
def DcO (S : Sto) : O → List (Key × D) → Prop
  | .v (.dct xs), ys => ys = xs
  | .v (.ptr n), ys => S[n]? = some (.dct ys)
  | .bd xs, ys => ys = xs
  | _, _ => False
theorem dcO_at {K : PySem.W.Frag} {en : En} {W : Wd} {H : Hp} {o : O} {xs : List (Key × D)} {v : V} (ho : Ho K W H S) (h : DcO S o xs) (r : RepO K en W H o v) : ∃ a vs, v = .ref a ∧ H a = some (.dK vs) ∧ RepK K W xs vs := by
  cases o with
  | v d =>
    cases d with
    | dct ys =>
      obtain rfl : xs = ys := h
      cases r with
      | dct h r => exact ⟨_, _, rfl, ho.fh _ _ h, r⟩
    | ptr n =>
      cases r
      obtain ⟨vs, e, r⟩ := ho.cel _ _ h
      exact ⟨_, vs, rfl, e, r⟩
    | _ => exact h.elim
  | bd ys =>
    obtain rfl : xs = ys := h
    obtain ⟨a, vs, e, q, r, _⟩ := r
    exact ⟨a, vs, e, q, r⟩
  | _ => exact h.elim
theorem s_inK {o : O} {xs : List (Key × D)} (h : DcO S o xs) (q : Q (.v (.bl (valD xs i).isSome)) S) : sem2 B k (compareOp .In) (.v (kD i)) o S Ex Q := by
  intro X en W σ H ft tk ho x' y' rx ry pins s v u I rv ru
  obtain ⟨a, vs, rfl, e, r⟩ := dcO_at ho h ry
  obtain rfl := rep_key rx
  obtain rfl : u = Value.ref a := ru
  refine d_in (by have := ft.units; omega) I (DGet.k e) rv fun s3 I3 => ⟨.bl (valV vs i).isSome, H, I3, rfl, W, .v (.bl (valV vs i).isSome), S, ho, .refl, .bl _, ?_⟩
  rcases r.val i with ⟨e1, e2⟩ | ⟨d, w, e1, e2, _⟩
  · rw [e2]
    rw [e1] at q
    exact q
  · rw [e2]
    rw [e1] at q
    exact q
theorem s_notInK {o : O} {xs : List (Key × D)} (h : DcO S o xs) (q : Q (.v (.bl (!(valD xs i).isSome))) S) : sem2 B k (compareOp .NotIn) (.v (kD i)) o S Ex Q := by
  intro X en W σ H ft tk ho x' y' rx ry pins s v u I rv ru
  obtain ⟨a, vs, rfl, e, r⟩ := dcO_at ho h ry
  obtain rfl := rep_key rx
  obtain rfl : u = Value.ref a := ru
  refine d_notIn (by have := ft.units; omega) I (DGet.k e) rv fun s3 I3 => ⟨.bl (!(valV vs i).isSome), H, I3, rfl, W, .v (.bl (!(valV vs i).isSome)), S, ho, .refl, .bl _, ?_⟩
  rcases r.val i with ⟨e1, e2⟩ | ⟨d, w, e1, e2, _⟩
  · rw [e2]
    rw [e1] at q
    exact q
  · rw [e2]
    rw [e1] at q
    exact q
end
end Dt

set_option Elab.async false
set_option linter.all false
set_option maxRecDepth 100000
set_option maxHeartbeats 4000000
/-! DatO: steps -/
namespace Dt
open PySem PySem.Spec PyProof.Rows L2 My
section
variable {G : Cf} {K : PySem.W.Frag} {B : Bs} {k i j l : Nat} {ρ ρ' ρ1 ρ2 : List Sl} {S : Sto} {E ex : XD} {nx bk ct : List Sl → Sto → Prop} {rt : D → List Sl → Sto → Prop} {t u : RS} {te ta tb ti : RE} {tA : RA} {g : RG} {c : RT} {Q : QO} {d x y z : D} {C f : Str} {fs : List (Str × D)} {xs : List D}
/-! ### statements -/
theorem q_seq (h : t ⟨u ⟨nx, rt, bk, ct, ex⟩, rt, bk, ct, ex⟩ ρ S) : dSeq t u ⟨nx, rt, bk, ct, ex⟩ ρ S := ⟨ρ, .refl, h⟩
theorem q_end (h : t ⟨nx, rt, bk, ct, ex⟩ ρ S) : dEnd t ⟨nx, rt, bk, ct, ex⟩ ρ S := ⟨ρ, .refl, h⟩
theorem q_nil (h : nx ρ S) : dNil ⟨nx, rt, bk, ct, ex⟩ ρ S := h
theorem q_brk (h : bk ρ S) : dBrk ⟨nx, rt, bk, ct, ex⟩ ρ S := h
theorem q_cnt (h : ct ρ S) : dCnt ⟨nx, rt, bk, ct, ex⟩ ρ S := h
theorem q_expr (h : te ρ S ex fun _ S1 => nx ρ S1) : dExpr te ⟨nx, rt, bk, ct, ex⟩ ρ S := h
theorem q_ret (h : te ρ S ex fun o S1 => ∃ d, o = .v d ∧ rt d ρ S1) : dRet te ⟨nx, rt, bk, ct, ex⟩ ρ S := h
theorem q_retN (h : rt .non ρ S) : dRetN ⟨nx, rt, bk, ct, ex⟩ ρ S := h
theorem q_if (h : c ρ S ex fun b S1 => if b = true then t ⟨nx, rt, bk, ct, ex⟩ ρ S1 else u ⟨nx, rt, bk, ct, ex⟩ ρ S1) : dIfS c t u ⟨nx, rt, bk, ct, ex⟩ ρ S := h
theorem q_asg (h : te ρ S ex fun o S1 => ∃ d, o = .v d ∧ g d ρ S1 ex nx) : dAsg te g ⟨nx, rt, bk, ct, ex⟩ ρ S := h
theorem q_asgF {tf : RF} (h : tf ρ S ex fun xs S1 => nx (ρ.set i (.ol xs)) S1) : dAsgF i tf ⟨nx, rt, bk, ct, ex⟩ ρ S := h
theorem q_asgC {tf : RF} (h : tf ρ S ex fun xs S1 => nx (ρ.set i (.ol xs)) S1) : dAsgC i tf ⟨nx, rt, bk, ct, ex⟩ ρ S := h
theorem q_app (e : ρ[i]? = some (.ol xs)) (hz : xs.length < sizeLine) (h : te ρ S ex fun o S1 => ∃ d, o = .v d ∧ nx (ρ.set i (.ol (xs ++ [d]))) S1) : dApp i te ⟨nx, rt, bk, ct, ex⟩ ρ S := ⟨xs, e, hz, h⟩
theorem q_sub (h : te ρ S ex fun v S1 => ∃ d, v = .v d ∧ ta ρ S1 ex fun x S2 => tb ρ S2 ex fun y S3 => sSet B k x y d S3 fun S4 => nx ρ S4) : dSub B k ta tb te ⟨nx, rt, bk, ct, ex⟩ ρ S := h
theorem q_par (h : tA ρ S ex fun os S1 => ∃ x y, os = [.v x, .v y] ∧ nx ((ρ.set i (.sh x)).set j (.sh y)) S1) : dPar i j tA ⟨nx, rt, bk, ct, ex⟩ ρ S := h
theorem q_par3 (h : tA ρ S ex fun os S1 => ∃ x y z, os = [.v x, .v y, .v z] ∧ nx (((ρ.set i (.sh x)).set j (.sh y)).set l (.sh z)) S1) : dPar3 i j l tA ⟨nx, rt, bk, ct, ex⟩ ρ S := h
theorem q_fldS (h : te ρ S ex fun y S1 => ∃ d C fs, y = .v d ∧ ρ[i]? = some (.slf C fs) ∧ Cls K (He.ga K C) ∧ NoAttr K (He.ga K C) f ∧ fs.length < 1000 ∧ nx (ρ.set i (.slf C (putD f d fs))) S1) : dFldS i f K te ⟨nx, rt, bk, ct, ex⟩ ρ S := h
theorem f_fldS (e : ρ[i]? = some (.slf C fs)) (c : Cls K (He.ga K C)) (n : NoAttr K (He.ga K C) f) (l : fs.length < 1000) (q : nx (ρ.set i (.slf C (putD f d fs))) S) : ∃ d' C fs, O.v d = .v d' ∧ ρ[i]? = some (.slf C fs) ∧ Cls K (He.ga K C) ∧ NoAttr K (He.ga K C) f ∧ fs.length < 1000 ∧ nx (ρ.set i (.slf C (putD f d' fs))) S := ⟨d, C, fs, rfl, e, c, n, l, q⟩
theorem q_fldP (h : te ρ S ex fun y S1 => ta ρ S1 ex fun x S2 => ∃ d j C fs, y = .v d ∧ x = .v (.ptr j) ∧ S2[j]? = some (.ins C fs) ∧ Cls K (He.ga K C) ∧ NoAttr K (He.ga K C) f ∧ fs.length < 1000 ∧ nx ρ (S2.set j (.ins C (putD f d fs)))) : dFldP K f ta te ⟨nx, rt, bk, ct, ex⟩ ρ S := h
theorem q_raise {fl : List Str} (h : tA ρ S ex fun os S1 => ∃ ds, Sol os ds ∧ ds.length = fl.length ∧ ex ρ C (fl.zip ds).reverse S1) : dRaise C fl tA ⟨nx, rt, bk, ct, ex⟩ ρ S := h
theorem q_for {tI : RI} (h : tI ρ S ex fun xs S1 => Loop g t ⟨nx, rt, bk, ct, ex⟩ xs ρ S1) : dFor tI g t ⟨nx, rt, bk, ct, ex⟩ ρ S := h
theorem q_try {cl : List DCl} (h : t ⟨nx, rt, bk, ct, hand K ⟨nx, rt, bk, ct, ex⟩ cl⟩ ρ S) : dTry K t cl ⟨nx, rt, bk, ct, ex⟩ ρ S := h
/-- an own list becomes a value -/
def dFrz (i : Nat) (t : RS) : RS := fun D ρ S => ∃ xs, ρ[i]? = some (.ol xs) ∧ t D (ρ.set i (.sh (.lst xs))) S
theorem dss_frz {st : List Stmt} (i : Nat) (h : DSs G st t) : DSs G st (dFrz i t) := by
  refine ⟨fun {X en W σ H ρ S pins s D} z ⟨xs, e, q⟩ => ?_⟩
  obtain ⟨W1, r1, l1⟩ := z.rs.fz (.frz i e .refl)
  exact thn (h.run ⟨z.hf, tk_up l1 z.tk, r1, z.I⟩ q) fun _ _ => sp_back l1
theorem q_frz (e : ρ[i]? = some (.ol xs)) (h : t ⟨nx, rt, bk, ct, ex⟩ (ρ.set i (.sh (.lst xs))) S) : dFrz i t ⟨nx, rt, bk, ct, ex⟩ ρ S := ⟨xs, e, h⟩
theorem DE.imp {e : Expr} {t t' : RE} (h : DE G e t) (m : ∀ ρ S E Q, t' ρ S E Q → t ρ S E Q) : DE G e t' := ⟨fun z q => h.run z (m _ _ _ _ q)⟩
/-- a list as a value, as one of the store -/
abbrev dLstV (tA : RA) : RE := fun ρ S E Q => tA ρ S E fun os S1 => ∃ ds, Sol os ds ∧ sz ds.length ∧ Q (.v (.lst ds)) S1
abbrev dLstP (tA : RA) : RE := fun ρ S E Q => tA ρ S E fun os S1 => ∃ ds, Sol os ds ∧ sz ds.length ∧ Q (.v (.ptr S1.length)) (S1 ++ [.lst ds])
theorem DA.mono {es : List Expr} {tA : RA} (h : DA G es tA) : True := trivial
/-! ### variables, values -/
theorem v_sh (e : ρ[i]? = some (.sh d)) (q : Q (.v d) S) : dVar i ρ S E Q := .inl ⟨d, e, q⟩
theorem v_ol (e : ρ[i]? = some (.ol xs)) (q : Q (.b xs) S) : dVar i ρ S E Q := .inr (.inl ⟨xs, e, q⟩)
theorem v_slf (e : ρ[i]? = some (.slf C fs)) (q : Q (.s C fs) S) : dVar i ρ S E Q := .inr (.inr (.inr ⟨C, fs, e, q⟩))
theorem q_val {P : D → Prop} (h : P d) : ∃ d', O.v d = .v d' ∧ P d' := ⟨d, rfl, h⟩
theorem q_bl {b : Bool} {P : Bool → Prop} (h : P b) : ∃ c, O.v (.bl b) = .v (.bl c) ∧ P c := ⟨b, rfl, h⟩
theorem q_oint {n : Int} {P : Int → Prop} (h : P n) : ∃ i, O.v (.int n) = .v (.int i) ∧ P i := ⟨n, rfl, h⟩
theorem q_two {P : D → D → Prop} (h : P x y) : ∃ a b, [O.v x, O.v y] = [.v a, .v b] ∧ P a b := ⟨x, y, rfl, h⟩
theorem q_three {P : D → D → D → Prop} (h : P x y z) : ∃ a b c, [O.v x, O.v y, O.v z] = [.v a, .v b, .v c] ∧ P a b c := ⟨x, y, z, rfl, h⟩
theorem q_sol0 {P : List D → Prop} (h : P []) : ∃ ds, Sol [] ds ∧ P ds := ⟨[], rfl, h⟩
theorem q_solc {os : List O} {P : List D → Prop} (h : ∃ ds, Sol os ds ∧ P (d :: ds)) : ∃ ds, Sol (.v d :: os) ds ∧ P ds := let ⟨ds, e, q⟩ := h; ⟨d :: ds, by rw [show Sol (O.v d :: os) (d :: ds) = ((O.v d :: os) = O.v d :: ds.map O.v) from rfl, ← show os = ds.map O.v from e], q⟩
theorem sz_of {n : Nat} (h : n ≤ 1000) : sz n := by
  unfold sz
  rw [sizeLine_eq]
  omega
theorem q_gtup {n : Nat} {t : RGs} {P : List Sl → Sto → Prop} (h : xs.length = n) (q : t xs ρ S E P) : gTup n t (.tup xs) ρ S E P := ⟨xs, rfl, h, q⟩
theorem q_gcons {t : RG} {u : RGs} {P : List Sl → Sto → Prop} (q : t d ρ S E fun ρ' S' => u xs ρ' S' E P) : gCons t u (d :: xs) ρ S E P := ⟨d, xs, rfl, q⟩
theorem q_gnil {P : List Sl → Sto → Prop} (q : P ρ S) : gNil [] ρ S E P := ⟨rfl, q⟩
theorem q_gname {P : List Sl → Sto → Prop} (e : ρ.set i (.sh d) = ρ') (q : P ρ' S) : gName i d ρ S E P := by
  subst e
  exact q
theorem n_set {P : List Sl → Sto → Prop} {s : Sl} (e : ρ.set i s = ρ') (q : P ρ' S) : P (ρ.set i s) S := by
  subst e
  exact q
theorem n_set2 {P : List Sl → Sto → Prop} {s s2 : Sl} (e : (ρ.set i s).set j s2 = ρ') (q : P ρ' S) : P ((ρ.set i s).set j s2) S := by
  subst e
  exact q
theorem n_set3 {P : List Sl → Sto → Prop} {s s2 s3 : Sl} (e : ((ρ.set i s).set j s2).set l s3 = ρ') (q : P ρ' S) : P (((ρ.set i s).set j s2).set l s3) S := by
  subst e
  exact q
/-! ### loops -/
theorem loop_inv (I : Nat → List Sl → Sto → Prop) (h0 : I 0 ρ S) (hs : ∀ (i : Nat) x ρ S (Nx : List Sl → Sto → Prop), xs[i]? = some x → I i ρ S → (∀ ρ' S', I (i + 1) ρ' S' → Nx ρ' S') → g x ρ S ex fun ρ' S' => t ⟨Nx, rt, nx, Nx, ex⟩ ρ' S')
    (hd : ∀ ρ S, I xs.length ρ S → nx ρ S) : Loop g t ⟨nx, rt, bk, ct, ex⟩ xs ρ S := by
  induction xs generalizing I ρ S with
  | nil => exact hd _ _ h0
  | cons y ys ih =>
    refine hs 0 y ρ S _ rfl h0 fun ρ' S' q => ?_
    exact ih (fun i => I (i + 1)) q (fun i x ρ S Nx e q hn => hs (i + 1) x ρ S Nx (by simpa using e) q hn) fun ρ S q => hd ρ S q
theorem lc_inv {tt : RT} {R : List D → Sto → Prop} (I : Nat → List D → Sto → Prop) (h0 : I 0 [] S) (hz : ∀ i acc S, I i acc S → acc.length < sizeLine) (hs : ∀ (i : Nat) x acc S (X : QO) (Y : Sto → Prop), xs[i]? = some x → I i acc S → (∀ d S', I (i + 1) (acc ++ [d]) S' → X (.v d) S') → (∀ S', I (i + 1) acc S' → Y S') →
      g x ρ S noE fun ρ' S' => tt ρ' S' noE fun c S2 => if c = true then te ρ' S2 noE X else Y S2) (hd : ∀ acc S, I xs.length acc S → R acc S) : Lc g tt te ρ xs [] S R := by
  have key : ∀ (xs acc : List D) (S : Sto) (I : Nat → List D → Sto → Prop), I 0 acc S → (∀ i acc S, I i acc S → acc.length < sizeLine) → (∀ (i : Nat) x acc S (X : QO) (Y : Sto → Prop), xs[i]? = some x → I i acc S → (∀ d S', I (i + 1) (acc ++ [d]) S' → X (.v d) S') → (∀ S', I (i + 1) acc S' → Y S') →
      g x ρ S noE fun ρ' S' => tt ρ' S' noE fun c S2 => if c = true then te ρ' S2 noE X else Y S2) → (∀ acc S, I xs.length acc S → R acc S) → Lc g tt te ρ xs acc S R := by
    intro xs
    induction xs with
    | nil => exact fun acc S I h0 _ _ hd => hd _ _ h0
    | cons y ys ih =>
      intro acc S I h0 hz hs hd
      refine hs 0 y acc S _ _ rfl h0 (fun d S' q => ⟨d, rfl, hz _ _ _ h0, ?_⟩) fun S' q => ?_
      · exact ih _ _ (fun i => I (i + 1)) q (fun i acc S q => hz _ _ _ q) (fun i x acc S X Y e q hX hY => hs (i + 1) x acc S X Y (by simpa using e) q hX hY) fun acc S q => hd acc S q
      · exact ih _ _ (fun i => I (i + 1)) q (fun i acc S q => hz _ _ _ q) (fun i x acc S X Y e q hX hY => hs (i + 1) x acc S X Y (by simpa using e) q hX hY) fun acc S q => hd acc S q
  exact key xs [] S I h0 hz hs hd
/-- a comprehension that reads no state -/
theorem lc_pure {tt : RT} {R : List D → Sto → Prop} (p : D → Bool) (f : D → D) (hz : xs.length ≤ 1000000) (hs : ∀ x, x ∈ xs → ∀ (X : QO) (Y : Sto → Prop), (p x = true → X (.v (f x)) S) → (p x = false → Y S) →
      g x ρ S noE fun ρ' S' => tt ρ' S' noE fun c S2 => if c = true then te ρ' S2 noE X else Y S2) (hd : R ((xs.filter p).map f) S) : Lc g tt te ρ xs [] S R := by
  have key : ∀ (xs acc : List D), acc.length + xs.length ≤ 1000000 → (∀ x, x ∈ xs → ∀ (X : QO) (Y : Sto → Prop), (p x = true → X (.v (f x)) S) → (p x = false → Y S) →
      g x ρ S noE fun ρ' S' => tt ρ' S' noE fun c S2 => if c = true then te ρ' S2 noE X else Y S2) → R (acc ++ (xs.filter p).map f) S → Lc g tt te ρ xs acc S R := by
    intro xs
    induction xs with
    | nil =>
      intro acc _ _ hd
      have hd2 : R acc S := by simpa using hd
      exact hd2
    | cons y ys ih =>
      intro acc hz hs hd
      simp only [List.length_cons] at hz
      refine hs y List.mem_cons_self _ _ (fun e => ⟨f y, rfl, by rw [sizeLine_eq]; omega, ?_⟩) fun e => ?_
      · refine ih _ (by simp only [List.length_append, List.length_cons, List.length_nil]; omega) (fun x hx => hs x (List.mem_cons_of_mem _ hx)) ?_
        rw [List.filter_cons, if_pos e, List.map_cons] at hd
        rw [List.append_assoc]
        exact hd
      · refine ih _ (by omega) (fun x hx => hs x (List.mem_cons_of_mem _ hx)) ?_
        rw [List.filter_cons, if_neg (by rw [e]; exact Bool.false_ne_true)] at hd
        exact hd
  exact key xs [] (by simpa using hz) hs (by simpa using hd)
end
/-! ### isinstance -/
section
variable {B : Bs} {k : Nat} {S : Sto} {Ex : XS} {Q : QO} {C : Str} {fs : List (Str × D)} {o : O}
/-- an expression's value has the type t -/
def TyD (K : PySem.W.Frag) (S : Sto) (o : O) (t : Value) : Prop := (∃ T, KdO S o T ∧ t = .type T) ∨ ∃ C fs, IsI S o C fs ∧ InsOk K (He.ga K C) ∧ t = .ref (He.ga K C)
def ClT (K : PySem.W.Frag) : D → Value → Prop
  | .ty n, u => u = .type n
  | .cls C, u => u = .ref (He.ga K C)
  | _, _ => False
theorem tyD_at {K : PySem.W.Frag} {en : En} {W : Wd} {H : Hp} {t : Value} {v : V} (ho : Ho K W H S) (h : TyD K S o t) (r : RepO K en W H o v) : TyX K H v t := by
  have lst : ∀ {a : Addr} {vs : List V}, Rd H a (.lst vs) → TyX K H (.ref a) (.type "list") := fun {a vs} q => q.elim (fun q => .base (.lst q)) fun ⟨_, q⟩ => .base (.frz q)
  rcases h with ⟨T, h, rfl⟩ | ⟨C, fs, i, io, rfl⟩
  · cases o with
    | v d =>
      cases r with
      | non =>
        obtain rfl : T = "NoneType" := h
        exact .base .non
      | bl b =>
        obtain rfl : T = "bool" := h
        exact .base (.bl b)
      | int i =>
        obtain rfl : T = "int" := h
        exact .base (.int i)
      | str y =>
        obtain rfl : T = "str" := h
        exact .base (.str y)
      | lst q _ =>
        obtain rfl : T = "list" := h
        exact lst (rd_le ho.fh q)
      | tup q _ =>
        obtain rfl : T = "tuple" := h
        exact tyT (sqT_le ho.fh q)
      | dct q _ =>
        obtain rfl : T = "dict" := h
        exact .base (.dK (ho.fh _ _ q))
      | ptr hi =>
        rcases h with ⟨rfl, xs, q⟩ | ⟨rfl, xs, q⟩
        · obtain ⟨vs, q2, _⟩ := ho.cel _ _ q
          exact .base (.lst q2)
        · obtain ⟨vs, q2, _⟩ := ho.cel _ _ q
          exact .base (.dK q2)
      | _ => exact h.elim
    | b xs =>
      obtain rfl : T = "list" := h
      obtain ⟨a, vs, rfl, q, _⟩ := r
      exact .base (.lst q)
    | bd xs =>
      obtain rfl : T = "dict" := h
      obtain ⟨a, vs, rfl, q, _⟩ := r
      exact .base (.dK q)
    | s C fs => exact h.elim
  · obtain ⟨a, dx, vs, rfl, e, _⟩ := isI_at ho i r
    exact io.ty e
theorem c_isi {c : D} {t u : Value} {b : Bool} (h : TyD B.K S o t) (hc : ClT B.K c u) (e : PySem.W.kitOne B.K t u = some b) (q : Q (.v (.bl b)) S) : sCall B k (.builtin "isinstance") [] [o, .v c] [] S Ex Q := liftC (r := rIsi B.K) (fun {X en} ft => by
  have z := call_isi (X := X)
  rw [ft.K] at z
  exact z) fun en W H xs' ho rx => by
  cases rx with
  | cons r1 rt =>
    cases rt with
    | cons r2 rt =>
      cases rt
      cases r2 with
      | ty n =>
        obtain rfl : u = _ := hc
        exact ⟨_, _, t, _, b, rfl, .ty n, tyD_at ho h r1, e, nx ho (.bl _) q⟩
      | cls C =>
        obtain rfl : u = _ := hc
        exact ⟨_, _, t, _, b, rfl, .own _, tyD_at ho h r1, e, nx ho (.bl _) q⟩
      | _ => exact hc.elim
theorem tyK {T : String} (h : KdO S o T) : TyD B.K S o (.type T) := .inl ⟨T, h, rfl⟩
end
/-! ### rules with fewer words -/
section
variable {G : Cf} {es : List Expr} {tA : RA} {pos : Pos} {x : Str} {i : Nat}
theorem dv (i : Nat) (hN : G.N[i]? = some x := by rfl) (hv : Vis G.sc x := by first | exact .inl rfl | exact .inr (.inl rfl) | exact .inr (.inr rfl)) (hd : (x == ("__debug__" : Str)) = false := by decide) (hcd : (x == ("__classdict__" : Str)) = false := by decide) : DE G (.Name x pos) (dVar i) := de_var hN hv hd hcd
theorem de_lstV (h : DA G es tA) : DE G (.List es pos) (dLstV tA) := by
  refine ⟨fun {X en W σ H ρ S E pins s Q} z q => ?_⟩
  refine wpAny_List_spliced (h.at pos z q fun us s1 vs H1 W1 os S1 z1 g1 r1 ro ⟨ds, so, hz, q1⟩ => ?_)
  subst so
  have hr := Sol.rep ro
  have hl : vs.length ≤ sizeLine := by rw [hr.len]; exact hz
  refine ⟨by rw [← r1.length]; exact hl, ?_⟩
  have hf : H1 s1.heap.objs.size = none := z1.I.hok.fresh (Nat.le_refl _)
  refine ⟨.ref s1.heap.objs.size, upd H1 s1.heap.objs.size (.lst vs), z1.I.laid (t' := s1.toks) (fun b u e => Heap.get?_push_of_some _ e) (Nat.le_refl _) ⟨hl, us, 0, r1, Heap.get?_push_size _ rfl⟩, rfl, ?_⟩
  exact ⟨_, .v (.lst ds), S1, z1.rs.ho.frz hf, g1.trans (Go.frz z1.rs.ho hf) (z1.rs.ho.frz hf), .lst (.inl upd_same) (hr.le (W1.frz_le (z1.rs.ho.nF hf))), q1⟩
theorem de_lstP (h : DA G es tA) : DE G (.List es pos) (dLstP tA) := by
  refine ⟨fun {X en W σ H ρ S E pins s Q} z q => ?_⟩
  refine wpAny_List_spliced (h.at pos z q fun us s1 vs H1 W1 os S1 z1 g1 r1 ro ⟨ds, so, hz, q1⟩ => ?_)
  subst so
  have hr := Sol.rep ro
  have hl : vs.length ≤ sizeLine := by rw [hr.len]; exact hz
  refine ⟨by rw [← r1.length]; exact hl, ?_⟩
  have hf : H1 s1.heap.objs.size = none := z1.I.hok.fresh (Nat.le_refl _)
  refine ⟨.ref s1.heap.objs.size, upd H1 s1.heap.objs.size (.lst vs), z1.I.laid (t' := s1.toks) (fun b u e => Heap.get?_push_of_some _ e) (Nat.le_refl _) ⟨hl, us, 0, r1, Heap.get?_push_size _ rfl⟩, rfl, ?_⟩
  have ho : Ho G.B.K (W1.cell s1.heap.objs.size) (upd H1 s1.heap.objs.size (.lst vs)) (S1 ++ [.lst ds]) := z1.rs.ho.cell hf ⟨vs, upd_same, hr.le Wd.cell_le⟩
  refine ⟨_, .v (.ptr S1.length), _, ho, g1.trans (Go.cell z1.rs.ho hf) ho, ?_, q1⟩
  have r : Rep G.B.K (W1.cell s1.heap.objs.size) (.ptr W1.n) (.ref ((W1.cell s1.heap.objs.size).m W1.n)) := .ptr (Nat.lt_succ_self _)
  rw [Wd.cell_new, z1.rs.ho.n] at r
  exact r
end
theorem sFun.mono {B : Bs} {k j : Nat} {fv : Value} {ks : List Str} {ds zs : List D} {S : Sto} {Ex : XS} {Q : QO} (h : sFun B k fv ks ds zs S Ex Q) (l : k ≤ j) : sFun B j fv ks ds zs S Ex Q := fun A outer s W H en σ vs ws us us' hr => h A outer s W H en σ vs ws us us' (hr.mono l)
/-- a weaker wish -/
theorem sFun.imp {B : Bs} {k : Nat} {fv : Value} {ks : List Str} {ds zs : List D} {S : Sto} {Ex : XS} {Q Q' : QO} (h : sFun B k fv ks ds zs S Ex Q) (m : ∀ o S', Q o S' → Q' o S') : sFun B k fv ks ds zs S Ex Q' := by
  intro A outer s W H en σ vs ws us us' hr e0 KX ho rd rz rv rw'
  refine codeAny_mono (h A outer s W H en σ vs ws us us' hr e0 KX ho rd rz rv rw') fun y s' q => ?_
  match y, q with
  | .error er, q => exact q
  | .ok (.ret u), ⟨v, H', a1, a2, a3, a4, a5, W', o, S', h1, g1, ro, q⟩ => exact ⟨v, H', a1, a2, a3, a4, a5, W', o, S', h1, g1, ro, m _ _ q⟩
end Dt

set_option Elab.async false
set_option linter.all false
set_option maxRecDepth 100000
set_option maxHeartbeats 4000000
/-! DatP: rules as a printer writes them; more facts as Bools -/
namespace Dt
open PySem PySem.Spec PyProof.Rows L2 My He
section
variable {G : Cf} {e a b c : Expr} {es : List Expr} {te ti ta tb tc : RE} {tA : RA} {tf : RF} {pos pos' px py pz pt p apos : Pos} {x y z : Str} {k k2 pt2 kt : Nat}
theorem dst (i : Nat) (he : DE G e te) (hi : G.N[i]? = some x := by rfl) (hx : Loc G.sc x := by first | exact .inl rfl | exact .inr rfl) (hf : Sto1 G x := by first | exact .inr rfl | exact .inl rfl) (hs : ∀ env : Env, swapsWith e (some (.Name x pos')) pos.line env = pure false := by intro _; rfl) : DS G (.Assign [.Name x pos'] e pos) (dAsg te (gName i)) := ds_set hi hx he hs hf
theorem dstF (i : Nat) (he : DF G e tf) (hi : G.N[i]? = some x := by rfl) (hx : Loc G.sc x := by first | exact .inl rfl | exact .inr rfl) (hf : Sto1 G x := by first | exact .inr rfl | exact .inl rfl) (hs : ∀ env : Env, swapsWith e (some (.Name x pos')) pos.line env = pure false := by intro _; rfl) : DS G (.Assign [.Name x pos'] e pos) (dAsgF i tf) := ds_setF hi hx he hs hf
theorem dgn (i : Nat) (hi : G.N[i]? = some x := by rfl) (hx : Loc G.sc x := by first | exact .inl rfl | exact .inr rfl) (hf : Sto1 G x := by first | exact .inr rfl | exact .inl rfl) : DG G (.Name x pos) [i] (gName i) := dg_name hi hx hf
end
abbrev bs (P : Program) (w : World) (K : PySem.W.Frag) (mg : Str → Option Value) (base : Heap) : Bs := ⟨P, w, K, mg, base, false, false⟩
section
variable {B : Bs} {x qual C : Str} {params : Arguments} {body : List Stmt} {scope : Scope} {dvs : List V} {kws : List (Str × V)} {f : Addr} {fd : FuncData} {N ps ks : List Str} {m k : Nat} {ok : List D → List D → Prop} {ar : List D → List D → List D} {t : RS} {S : Sto} {Ex : XS} {Q : QO} {ρ0 : List Sl}
theorem call_d (k : Nat) (F : FunD B.K x qual params body scope dvs kws f fd) (Sc : FnScope N ps scope) (hot : B.hot = false) (bm : BindM B fd ps 0 ks ok ar) (hd : DSs (fnCf B k N scope) body t) {ds zs : List D} (hok : ok ds zs)
    (e : startS N.length (ar ds zs) = ρ0) (hq : t ⟨fun _ S' => Q (.v .non) S', fun d _ S' => Q (.v d) S', fun _ _ => False, fun _ _ => False, fun _ => Ex⟩ ρ0 S) : sFun B (k + 1) (.ref f) ks ds zs S Ex Q := by
  subst e
  exact call_def F Sc hot bm hd hok hq
theorem call_m (k : Nat) (M : Mg B.K (He.ga B.K C) f) (F : FunD B.K x qual params body scope dvs kws f fd) (Sc : FnScope N ps scope) (hot : B.hot = false) (bm : BindM B fd ps 1 ks ok ar) (hd : DSs (fnCf B k N scope) body t) {ds zs : List D} (hok : ok ds zs)
    (e : startM C N.length (ar ds zs) = ρ0) (hq : t ⟨fun ρ S' => ∃ fs, ρ[0]? = some (.slf C fs) ∧ (Q (.v (.ins C fs)) S' ∨ Q (.v (.ptr S'.length)) (S' ++ [.ins C fs])), fun d ρ S' => d = .non ∧ ∃ fs, ρ[0]? = some (.slf C fs) ∧ (Q (.v (.ins C fs)) S' ∨ Q (.v (.ptr S'.length)) (S' ++ [.ins C fs])), fun _ _ => False, fun _ _ => False, fun _ => Ex⟩ ρ0 S) (hN : 0 < N.length := by decide) : sFun B (k + 2) (.ref (He.ga B.K C)) ks ds zs S Ex Q := by
  subst e
  exact call_mk M F Sc hot bm hd hok hq hN
end
/-! ### the store but for one object -/
structure Bt (n : Nat) (S S' : Sto) : Prop where
  at_ : ∀ i, i ≠ n → S'[i]? = S[i]?
  len : S'.length = S.length
theorem Bt.refl {n : Nat} {S : Sto} : Bt n S S := ⟨fun _ _ => rfl, rfl⟩
theorem Bt.trans {n : Nat} {S S1 S2 : Sto} (a : Bt n S S1) (b : Bt n S1 S2) : Bt n S S2 := ⟨fun i h => (b.at_ i h).trans (a.at_ i h), b.len.trans a.len⟩
theorem Bt.set {n : Nat} {S : Sto} {c : Cell} : Bt n S (S.set n c) := ⟨fun i h => List.getElem?_set_ne (Ne.symm h), List.length_set⟩
section
variable {B : Bs} {k n l : Nat} {i : Int} {S : Sto} {d : D} {xs ys : List D}
theorem set_L2 {Q : Sto → Prop} (e : S[n]? = some (.lst xs)) (h : ixN xs.length i = some l) (es : xs.set l d = ys) (q : ∀ S', S'[n]? = some (.lst ys) → Bt n S S' → Q S') : sSet B k (.v (.ptr n)) (.v (.int i)) d S Q := by
  subst es
  exact set_L e h (q _ (by rw [List.getElem?_set_self (List.getElem?_eq_some_iff.mp e).1]) .set)
end
theorem ls_p {S : Sto} {n : Nat} {xs : List D} (h : S[n]? = some (.lst xs)) : LsO S (.v (.ptr n)) xs := h
theorem ls_v {S : Sto} {xs : List D} : LsO S (.v (.lst xs)) xs := rfl
theorem ls_b {S : Sto} {xs : List D} : LsO S (.b xs) xs := rfl
theorem q_walk {o : O} {ys : List D} {P : List D → Prop} (h : Walk o ys) (q : P ys) : ∃ xs, Walk o xs ∧ P xs := ⟨ys, h, q⟩
section
variable {o : O} {A B : Prop}
theorem n_t (e : isNonO o = true) (h : A) : if isNonO o = true then A else B := by rw [if_pos e]; exact h
theorem n_f (e : isNonO o = false) (h : B) : if isNonO o = true then A else B := by rw [if_neg (by rw [e]; exact Bool.false_ne_true)]; exact h
theorem nn_t (e : isNonO o = true) (h : B) : if (!isNonO o) = true then A else B := by rw [if_neg (by rw [e]; exact Bool.false_ne_true)]; exact h
theorem nn_f (e : isNonO o = false) (h : A) : if (!isNonO o) = true then A else B := by rw [if_pos (by rw [e]; rfl)]; exact h
end
theorem q_meth {K : PySem.W.Frag} {S : Sto} {d : D} {C m : Str} {P : D → Str → Prop} (h : MtD K m d S C) (q : P d C) : ∃ d' C', O.v d = .v d' ∧ MtD K m d' S C' ∧ P d' C' := ⟨d, C, rfl, h, q⟩
theorem q_rng1 {n : Int} {P : List D → Prop} (h1 : -(2 ^ 62) ≤ n) (h2 : n < 2 ^ 62) (q : P (rngD 0 n.toNat)) : ∃ (m : Int) (xs : List D), [O.v (.int n)] = [.v (.int m)] ∧ -(2 ^ 62) ≤ m ∧ m < 2 ^ 62 ∧ xs = rngD 0 m.toNat ∧ P xs := ⟨n, _, rfl, h1, h2, rfl, q⟩
theorem q_rng2 {i j : Int} {P : List D → Prop} (h : -(2 ^ 62) ≤ i ∧ i < 2 ^ 62 ∧ -(2 ^ 62) ≤ j ∧ j < 2 ^ 62) (q : P (rngD i (j - i).toNat)) : ∃ (a b : Int) (xs : List D), [O.v (.int i), O.v (.int j)] = [.v (.int a), .v (.int b)] ∧ (-(2 ^ 62) ≤ a ∧ a < 2 ^ 62 ∧ -(2 ^ 62) ≤ b ∧ b < 2 ^ 62) ∧ xs = rngD a (b - a).toNat ∧ P xs := ⟨i, j, _, rfl, h, rfl, q⟩
theorem rngD_at {lo : Int} {n i : Nat} {x : D} (h : (rngD lo n)[i]? = some x) : i < n ∧ x = .int (lo + (i : Nat)) := by
  have hi : i < n := by
    have := (List.getElem?_eq_some_iff.mp h).1
    rw [rngD_len] at this
    exact this
  rw [rngD_get hi] at h
  exact ⟨hi, (Option.some.inj h).symm⟩
end Dt

set_option Elab.async false
set_option linter.all false
set_option maxRecDepth 100000
set_option maxHeartbeats 4000000
/-! DatQ: ranges of integers of any size -/
namespace Dt
open PySem PySem.Spec PyProof.Rows L2 My He
section
variable {X : Cx} {tg : Expr}
end
section
variable {G : Cf} {tg a b : Expr} {tA : RA} {p pos : Pos}
end
theorem q_rngL {i j : Int} {P : List D → Prop} (q : P (rngD i (j - i).toNat)) : ∃ (a b : Int) (xs : List D), [O.v (.int i), O.v (.int j)] = [.v (.int a), .v (.int b)] ∧ xs = rngD a (b - a).toNat ∧ P xs := ⟨i, j, _, rfl, rfl, q⟩
end Dt

set_option Elab.async false
set_option linter.all false
set_option maxRecDepth 100000
set_option maxHeartbeats 4000000
/-! DatR: the script; the law's end -/
namespace Dt
open PySem PySem.Spec PyProof.Rows L2 My He
theorem Rep.lskI {K : PySem.W.Frag} {W : Wd} {xs : List D} {v : V} (h : Rep K W (.lsk xs) v) : ∃ a vs, v = .ref a ∧ SqL K W.F a vs ∧ Reps K W xs vs := by
  cases h with
  | lsk h r => exact ⟨_, _, rfl, h, r⟩
section
variable {B : Bs} {k : Nat} {S : Sto} {Ex : XS} {Q : QO} {i : Int} {xs : List D} {d : D}
theorem c_lenX (q : Q (.v (.int xs.length)) S) : sCall B k (.builtin "len") [] [.v (.lsk xs)] [] S Ex Q := liftC (fun ft => call_lenK ft.K) fun en W H xs' ho rx => by
  cases rx with
  | cons r t =>
    cases t
    obtain ⟨a, vs, rfl, e, rr⟩ := Rep.lskI r
    rw [← rr.len] at q
    exact ⟨a, vs, rfl, .inl (sqL_le ho.fh e), nx ho (.int _) q⟩
theorem s_ixX (e : L2.atI xs i = some d) (q : Q (.v d) S) : sIx B k (.v (.lsk xs)) (.v (.int i)) S Ex Q := liftI (fun ft => ix_listK ft.K) fun en W H x' y' ho rx ry => by
  cases ry
  obtain ⟨a, vs, rfl, e1, rr⟩ := Rep.lskI rx
  obtain ⟨v, e2, rv⟩ := rr.atI e
  exact ⟨a, vs, i, v, rfl, rfl, sqL_le ho.fh e1, e2, nx ho rv q⟩
theorem s_slX {lo hi : Option Int} (q : NewL S Q (cutD xs lo hi)) : sSl B k (.v (.lsk xs)) lo hi S Q := liftS (fun ft => sl_listK ft.K) fun en W H x' ho rx => by
  obtain ⟨a, vs, rfl, e1, rr⟩ := Rep.lskI rx
  exact ⟨a, vs, rfl, sqL_le ho.fh e1, nxN ho (rr.cut lo hi) q⟩
end
end Dt

set_option Elab.async false
set_option linter.all false
set_option maxRecDepth 100000
set_option maxHeartbeats 4000000
/-! DatS: bool of own objects -/
namespace Dt
open PySem PySem.Spec PyProof.Rows L2 My He
section
variable {B : Bs} {k : Nat} {f : Addr} {C : Str} {fs : List (Str × D)} {d : D} {S : Sto} {Ex : XS} {Q : QO}
end
end Dt

set_option Elab.async false
set_option linter.all false
set_option maxRecDepth 100000
set_option maxHeartbeats 4000000
/-! DatT: texts, x[::-1], star calls, calls of own instances -/
namespace Dt
open PySem PySem.Spec PyProof.Rows L2 My He SX
/-- a text by its code points -/
abbrev tx (l : List Nat) : D := .str (S l)
section
variable {B : Bs} {k : Nat} {S0 : Sto} {Ex : XS} {Q : QO} {c : Nat} {l m : List Nat} {i : Int} {ls : List (List Nat)} {o : O}
end
end Dt

set_option Elab.async false
set_option linter.all false
set_option maxRecDepth 100000
set_option maxHeartbeats 4000000
/-! DatU: x[::-1], star calls, calls of own instances -/
namespace HT
open PySem PySem.Spec PyProof.Rows
section
variable {prog : Program} {w : World} {A : Around} {E : Value → Shared → Prop} {s : Shared}
end
end HT
namespace Dt
open PySem PySem.Spec PyProof.Rows L2 My He SX
section
variable {G : Cf} {X : Cx} {en : En} {W W1 : Wd} {σ : L2.St} {H H1 : Hp} {ρ : List Sl} {S S1 : Sto} {E : XD} {pins : List (Addr × Obj)} {s s1 : Shared} {e a b c o : Expr} {es : List Expr} {t ta tb tc te to : RE} {tA tK : RA} {pos p apos p1 p2 p3 sp_ : Pos} {x m : Str}
end
end Dt

set_option Elab.async false
set_option linter.all false
set_option maxRecDepth 100000
set_option maxHeartbeats 4000000
/-! DatV: x, y = .., where a new list may stand on the right -/
namespace Dt
open PySem PySem.Spec PyProof.Rows L2 My He SX
/-- a value, or a new list -/
inductive VO where
  | v (d : D) | f (xs : List D)
def VO.sl : VO → Sl
  | .v d => .sh d
  | .f xs => .ol xs
def RepV (K : PySem.W.Frag) (en : En) (W : Wd) (H0 H : Hp) : VO → V → Prop
  | .v d, x => Rep K W d x
  | .f xs, x => ∃ a vs, x = .ref a ∧ H a = some (.lst vs) ∧ Reps K W xs vs ∧ Own en W H a ∧ H0 a = none
theorem RepV.go {K : PySem.W.Frag} {en : En} {W W' : Wd} {H0 H H' : Hp} {o : VO} {x : V} (g : Go W H W' H') (h : RepV K en W H0 H o x) : RepV K en W' H0 H' o x := by
  cases o with
  | v d => exact Rep.le g.le h
  | f xs =>
    obtain ⟨a, vs, e, h1, r, w, n⟩ := h
    exact ⟨a, vs, e, g.kp _ _ h1 w.m, r.le g.le, w.go g h1, n⟩
abbrev RV := List Sl → Sto → XD → (VO → Sto → Prop) → Prop
abbrev RVs := List Sl → Sto → XD → (List VO → Sto → Prop) → Prop
structure DV (G : Cf) (e : Expr) (t : RV) : Prop where
  run : ∀ {X en W σ H ρ S E pins s Q}, At G X en W σ H ρ S E pins s → t ρ S E Q → wpAny (model X.prog X.w) X.A (eval e X.env) (fun v s1 => ∃ x' H1 W1 o S1, Inv X pins σ H1 s1 ∧ RelV x' v ∧ Ho G.B.K W1 H1 S1 ∧ Go W H W1 H1 ∧ RepV G.B.K en W1 H H1 o x' ∧ Q o S1) X.xe s
def Apart2 (H : Hp) (x : V) : List VO → List V → Prop
  | .f _ :: os, y :: ys => x ≠ y ∧ Apart2 H x os ys
  | .v _ :: os, _ :: ys => Apart2 H x os ys
  | _, _ => True
inductive RepVs (K : PySem.W.Frag) (en : En) (W : Wd) (H0 H : Hp) : List VO → List V → Prop
  | nil : RepVs K en W H0 H [] []
  | cons {o : VO} {x : V} {os : List VO} {xs : List V} (h : RepV K en W H0 H o x) (t : RepVs K en W H0 H os xs) (d : ∀ ys, o = .f ys → Apart2 H x os xs) : RepVs K en W H0 H (o :: os) (x :: xs)
structure DVs (G : Cf) (es : List Expr) (t : RVs) : Prop where
  run : ∀ (pos : Pos) {X en W σ H ρ S E pins s Q}, At G X en W σ H ρ S E pins s → t ρ S E Q → wpAny (model X.prog X.w) X.A (spliced (backTo pos (starEach es X.env))) (fun us s1 => ∃ vs H1 W1 os S1, Inv X pins σ H1 s1 ∧ Vals vs us ∧ Ho G.B.K W1 H1 S1 ∧ Go W H W1 H1 ∧ RepVs G.B.K en W1 H H1 os vs ∧ Q os S1) X.xe s
section
variable {G : Cf} {X : Cx} {en : En} {W W1 : Wd} {σ : L2.St} {H H1 : Hp} {ρ : List Sl} {S S1 : Sto} {E : XD} {pins : List (Addr × Obj)} {s s1 : Shared} {e a b c o : Expr} {es : List Expr} {t ta tb tc te to : RE} {tA tK : RA} {pos p apos : Pos} {x m : Str}
theorem RepVs.back {K : PySem.W.Frag} {Hm H2 : Hp} {W1 : Wd} (k : ∀ a, Hm a = none → H a = none) : ∀ {os : List VO} {vs : List V}, RepVs K en W Hm H2 os vs → RepVs K en W H H2 os vs
  | [], _, .nil => .nil
  | .v d :: os, _, .cons h t d' => .cons h (RepVs.back (W1 := W1) k t) d'
  | .f xs :: os, _, .cons h t d' => .cons (let ⟨b, vs, e, h1, r, w, n⟩ := h; ⟨b, vs, e, h1, r, w, k _ n⟩) (RepVs.back (W1 := W1) k t) d'
def dParV (i j : Nat) (tA : RVs) : RS := fun D ρ S => tA ρ S D.ex fun os S1 => ∃ x y, os = [x, y] ∧ D.nx ((ρ.set i x.sl).set j y.sl) S1
def dParV3 (i j l : Nat) (tA : RVs) : RS := fun D ρ S => tA ρ S D.ex fun os S1 => ∃ x y z, os = [x, y, z] ∧ D.nx (((ρ.set i x.sl).set j y.sl).set l z.sl) S1
end
theorem q_parV {i j : Nat} {tA : RVs} {ex : XD} {nx bk ct : List Sl → Sto → Prop} {rt : D → List Sl → Sto → Prop} {ρ : List Sl} {S : Sto} (h : tA ρ S ex fun os S1 => ∃ x y, os = [x, y] ∧ nx ((ρ.set i x.sl).set j y.sl) S1) : dParV i j tA ⟨nx, rt, bk, ct, ex⟩ ρ S := h
theorem q_parV3 {i j l : Nat} {tA : RVs} {ex : XD} {nx bk ct : List Sl → Sto → Prop} {rt : D → List Sl → Sto → Prop} {ρ : List Sl} {S : Sto} (h : tA ρ S ex fun os S1 => ∃ x y z, os = [x, y, z] ∧ nx (((ρ.set i x.sl).set j y.sl).set l z.sl) S1) : dParV3 i j l tA ⟨nx, rt, bk, ct, ex⟩ ρ S := h
theorem q_vv {d : D} {P : VO → Prop} (h : P (.v d)) : ∃ d', O.v d = .v d' ∧ P (.v d') := ⟨d, rfl, h⟩
theorem q_twoV {x y : VO} {P : VO → VO → Prop} (h : P x y) : ∃ a b, [x, y] = [a, b] ∧ P a b := ⟨x, y, rfl, h⟩
theorem q_threeV {x y z : VO} {P : VO → VO → VO → Prop} (h : P x y z) : ∃ a b c, [x, y, z] = [a, b, c] ∧ P a b c := ⟨x, y, z, rfl, h⟩
end Dt

set_option Elab.async false
set_option linter.all false
set_option maxRecDepth 100000
set_option maxHeartbeats 4000000
/-! DatW: dict(pairs), d.get, str(text) -/
namespace Dt
open PySem PySem.Spec PyProof.Rows L2 My He SX
section
variable {B : Bs} {k : Nat} {S0 : Sto} {Ex : XS} {Q : QO} {o : O}
end
section
variable {G : Cf} {X : Cx} {en : En} {W W1 : Wd} {σ : L2.St} {H H1 : Hp} {ρ : List Sl} {S S1 : Sto} {pins : List (Addr × Obj)} {s s1 : Shared} {e f o : Expr} {te tf to : RE} {pos p apos cpos : Pos}
end
theorem q_isS {x : Str} {S : Sto} {A : Prop} (h : A) : dBM0.isT "str" (.v (.str x)) S ∧ A := ⟨rfl, h⟩
theorem q_isL {xs : List D} {S : Sto} {A : Prop} (h : A) : dBM0.isT "list" (.v (.lst xs)) S ∧ A := ⟨rfl, h⟩
end Dt

set_option Elab.async false
set_option linter.all false
set_option maxRecDepth 100000
set_option maxHeartbeats 4000000
/-! DatZW: objects of classes without __eq__, __bool__, __len__ of their own: truth, and == by identity -/
namespace Dt
open PySem PySem.Spec PyProof.Rows L2 My
namespace IdO
open PySem.W PySem.Calls
section
variable {prog : Program} {w : World} {A : Around} {E : Value → Shared → Prop} {s : Shared} {K : Frag} {x y C L : Addr} {h₀ : Heap} {m : Str → Option Value} {ox oy : Obj} {od : Option Obj}
theorem eq_try {Q : Option Value → Shared → Prop} (X : K.In s.heap) (I : InstAt s.heap x ox C od) (hy : s.heap.get? y = some oy) (hxy : x ≠ y) (heq : findIn K (.ref C) "__eq__" = some (some (.builtin "object.__eq__"))) (hob : subIn K (.ref C) (.type "object") = some true)
    (h : Q none s) : wpAny (model prog w) A (tryCompare (.ref x) "__eq__" (.ref y)) Q E s := by
  have FB := F.cmp_object
  unfold tryCompare
  refine wpAny_bind ?_
  simp only [callSpecialIfBound?, bindSpecialIfBound?]
  refine wpAny_holding (wpAny_bind (wpAny_bind (wpAny_bind (I.type.here ((looks_findIn X heq).here ?_)))))
  simp only [FB.eq.bind]
  refine wpAny_bind (wpAny_askSetting (wpAny_ite ?_))
  have hnt : ox.cls ≠ .type "tuple" := by rw [I.cls]; intro e; cases e
  have ent : wpAny (model prog w) A.in1 (Builtin.«object.__eq__» ⟨[.ref x, .ref y], []⟩) (fun fl s' => fl = .done (.ret .notImplemented) ∧ s' = s) E s :=
    objEq_entry_other hxy I.at_ hy hnt ⟨rfl, rfl⟩
  have chk : wpAny (model prog w) A.in1 (checkBuiltinCall "object.__eq__" ⟨[.ref x, .ref y], []⟩) (fun _ s' => s' = s) E s := by
    simp only [checkBuiltinCall, F.cmpKind_eq, F.cmpSplit_eq]
    refine wpAny_bind ?_
    unfold isInstance
    refine wpAny_bind (I.type.here ?_)
    refine (looks_subIn X hob).here ?_
    rw [if_neg (show ¬ ((!true) = true) from Bool.false_ne_true)]
    have ha := F.cmpArgs_eq (.ref x) (.ref y)
    cases hsig : Manifest.signature? "object.__eq__" with
    | none => exact wpAny_pure rfl
    | some sig =>
      simp only [argsOk, hsig] at ha
      have h2 : Bind.checkArgs "object.__eq__" sig ⟨[.ref x, .ref y], []⟩ = pure () := ha
      show wpAny _ A.in1 (Bind.checkArgs "object.__eq__" sig ⟨[.ref x, .ref y], []⟩) _ E _
      rw [h2]
      exact wpAny_pure rfl
  have fin : wpAny (model prog w) A (call (.builtin "object.__eq__") ([.ref x] ++ [.ref y]) >>= fun v => pure (some v)) (fun r s' => r = some .notImplemented ∧ s' = s) E s := by
    refine wpAny_bind (wpAny_call (codeAny_call_builtin FB.eq.plain F.cmpEntry_eq ?_))
    refine wpAny_mono chk (fun _ s' e => ?_) fun _ _ e => e
    subst e
    refine wpAny_mono ent (fun fl s1 hfl => ?_) fun _ _ e => e
    obtain ⟨rfl, rfl⟩ := hfl
    exact wpAny_pure ⟨rfl, rfl⟩
  have last : ∀ (a : Option Value) (s' : Shared), (a = some .notImplemented ∧ s' = s) → wpAny (model prog w) A (match a with | some Value.notImplemented => pure none | none => pure none | some v => pure (some v)) Q E s' := by
    rintro a s' ⟨rfl, rfl⟩
    exact wpAny_pure h
  split
  · exact wpAny_bind (wpAny_pure (wpAny_pure (wpAny_mono fin (fun a s' z => last a s' z) fun _ _ e => e)))
  · exact wpAny_tryCatch (wpAny_bind (wpAny_pure (wpAny_pure (wpAny_mono fin (fun a s' z => last a s' z) fun _ _ e => e))))
theorem eq_other {Q : Value → Shared → Prop} (hu : A.units < cLine) (X : K.In s.heap) (I : InstAt s.heap x ox C od) {od' : Option Obj} (J : InstAt s.heap y oy C od') (hxy : x ≠ y) (heq : findIn K (.ref C) "__eq__" = some (some (.builtin "object.__eq__"))) (hob : subIn K (.ref C) (.type "object") = some true)
    (h : Q (.bool false) s) : wpAny (model prog w) A (richCompare .Eq (.ref x) (.ref y)) Q E s := by
  have hnt : ox.cls ≠ .type "tuple" := by rw [I.cls]; intro e; cases e
  unfold richCompare
  simp only [oneThing_ref]
  refine wpAny_holding (wpAny_bind (wpAny_cRoomFor hu ?_))
  refine wpAny_bind (I.type.here (wpAny_bind (J.type.here ?_)))
  rw [if_neg (by simp)]
  refine wpAny_bind (wpAny_pure ?_)
  simp only [Bool.false_eq_true, if_false]
  refine wpAny_bind (eq_try X I J.at_ hxy heq hob ?_)
  simp only [Bool.not_false, if_true]
  refine wpAny_bind (eq_try X J I.at_ (Ne.symm hxy) heq hob ?_)
  first
    | exact wpAny_bind (wpAny_pure (wpAny_bind (wpAny_isSame_ref_other hxy I.at_ J.at_ hnt (wpAny_pure h))))
    | exact wpAny_bind (wpAny_isSame_ref_other hxy I.at_ J.at_ hnt (wpAny_pure h))
    | exact wpAny_bind (wpAny_rule (wpAny_bind (wpAny_isSame_ref_other hxy I.at_ J.at_ hnt (wpAny_pure h))))
    | skip
end
end IdO
structure IdOk (K : PySem.W.Frag) (C : Addr) : Prop where
  eq : PySem.W.findIn K (.ref C) "__eq__" = some (some (.builtin "object.__eq__"))
  ob : PySem.W.subIn K (.ref C) (.type "object") = some true
  bo : PySem.W.findIn K (.ref C) "__bool__" = some none
  le : PySem.W.findIn K (.ref C) "__len__" = some none
def idB (K : PySem.W.Frag) (x : Str) : Bool := He.eqO (PySem.W.findIn K (.ref (He.ga K x)) "__eq__") (some (some (.builtin "object.__eq__"))) && (decide (PySem.W.subIn K (.ref (He.ga K x)) (.type "object") = some true) && (He.eqO (PySem.W.findIn K (.ref (He.ga K x)) "__bool__") (some none) && He.eqO (PySem.W.findIn K (.ref (He.ga K x)) "__len__") (some none)))
theorem idB_ok {K : PySem.W.Frag} {x : Str} (h : idB K x = true) : IdOk K (He.ga K x) := by
  obtain ⟨h1, h2⟩ := Bool.and_eq_true_iff.mp h
  obtain ⟨h2, h3⟩ := Bool.and_eq_true_iff.mp h2
  obtain ⟨h3, h4⟩ := Bool.and_eq_true_iff.mp h3
  exact ⟨He.eqO_ok h1, of_decide_eq_true h2, He.eqO_ok h3, He.eqO_ok h4⟩
section
variable {B : Bs} {k : Nat} {S : Sto} {Ex : XS} {C : Str} {fs gs : List (Str × D)} {d e : D}
theorem t_id {Q : Bool → Sto → Prop} (i1 : IsI S (.v d) C fs) (p : IdOk B.K (He.ga B.K C)) (q : Q true S) : semB B k (.v d) S Q := by
  intro X en W σ H ft ho x' rx pins s v I rv
  obtain ⟨a, dx, vs, rfl, ea, _⟩ := isI_at ho i1 rx
  obtain rfl : v = Value.ref a := rv
  rw [← ft.K] at p ea
  obtain ⟨mA, O, _⟩ := ins_get I.hok ea
  obtain ⟨od, J, _⟩ := O.look
  obtain ⟨m, hF⟩ := I.fr
  exact PySem.W.truthy_K0 hF I.ok.mod.kin J p.bo p.le ⟨H, I, W, S, ho, .refl, q⟩
/-- two objects of one class -/
theorem s_idEq {i j : Nat} {Q : QO} (hot : B.hot = false) (i1 : S[i]? = some (.ins C fs)) (i2 : S[j]? = some (.ins C gs)) (hij : i ≠ j) (p : IdOk B.K (He.ga B.K C)) (q : Q (.v (.bl false)) S) : sem2 B k (compareOp .Eq) (.v (.ptr i)) (.v (.ptr j)) S Ex Q := by
  intro X en W σ H ft tk ho x' y' rx ry pins s v u I rv ru
  have ne : W.m i ≠ W.m j := fun z => by
    have l1 := (List.getElem?_eq_some_iff.mp i1).1
    have l2 := (List.getElem?_eq_some_iff.mp i2).1
    rw [← ho.n] at l1 l2
    exact hij (ho.inj _ _ l1 l2 z)
  obtain ⟨a, dx, vs, ex, ea, _⟩ := isI_at ho (isI_ptr i1) rx
  obtain ⟨b, dy, us, ey, eb, _⟩ := isI_at ho (isI_ptr i2) ry
  have ea' : a = W.m i := by cases rx; cases ex; rfl
  have eb' : b = W.m j := by cases ry; cases ey; rfl
  subst ex ey
  obtain rfl : v = Value.ref a := rv
  obtain rfl : u = Value.ref b := ru
  rw [← ft.K] at p ea eb
  obtain ⟨mA, O, _⟩ := ins_get I.hok ea
  obtain ⟨od, J, _⟩ := O.look
  obtain ⟨mB, O', _⟩ := ins_get I.hok eb
  obtain ⟨od', J', _⟩ := O'.look
  refine IdO.eq_other (ft.rg hot).r.units0 I.kIn J J' (by rw [ea', eb']; exact ne) p.eq p.ob ?_
  exact ⟨.bl false, H, I, rfl, W, .v (.bl false), S, ho, .refl, .bl _, q⟩
end
end Dt

set_option Elab.async false
set_option linter.all false
set_option maxRecDepth 100000
set_option maxHeartbeats 4000000
namespace Toy
open PySem PySem.Spec PyProof.Rows L2 My Dt SX
def top (i : Nat) : Stmt := PySem.Challenge.pw_drawclaims_k73_tables_by_a_list.main.body.getD i (.Pass ⟨0, 0, 0, 0⟩)
abbrev s_is_integer : Stmt := (top 10)
theorem sc_is_integer : FnScope ["value"] ["value"] (defScope s_is_integer) := ⟨rfl, rfl, rfl, by decide +kernel, rfl, by decide +kernel, by decide +kernel⟩
abbrev s_check_range : Stmt := (top 12)
theorem sc_check_range : FnScope ["number", "least", "most"] ["number", "least", "most"] (defScope s_check_range) := ⟨rfl, rfl, rfl, by decide +kernel, rfl, by decide +kernel, by decide +kernel⟩
abbrev s_check_key : Stmt := (top 15)
theorem sc_check_key : FnScope ["key"] ["key"] (defScope s_check_key) := ⟨rfl, rfl, rfl, by decide +kernel, rfl, by decide +kernel, by decide +kernel⟩
abbrev s_check_rank : Stmt := (top 16)
theorem sc_check_rank : FnScope ["rank"] ["rank"] (defScope s_check_rank) := ⟨rfl, rfl, rfl, by decide +kernel, rfl, by decide +kernel, by decide +kernel⟩
abbrev s_check_mark : Stmt := (top 17)
theorem sc_check_mark : FnScope ["marked"] ["marked"] (defScope s_check_mark) := ⟨rfl, rfl, rfl, by decide +kernel, rfl, by decide +kernel, by decide +kernel⟩
abbrev s_Table__init : Stmt := (inClass (top 19) 0)
theorem sc_Table__init : FnScope ["self"] ["self"] (defScope s_Table__init) := ⟨rfl, rfl, rfl, by decide +kernel, rfl, by decide +kernel, by decide +kernel⟩
abbrev s_Table_entry_of : Stmt := (inClass (top 19) 1)
theorem sc_Table_entry_of : FnScope ["self", "key"] ["self", "key"] (defScope s_Table_entry_of) := ⟨rfl, rfl, rfl, by decide +kernel, rfl, by decide +kernel, by decide +kernel⟩
abbrev s_Table_write : Stmt := (inClass (top 19) 2)
theorem sc_Table_write : FnScope ["self", "key", "rank", "marked"] ["self", "key", "rank", "marked"] (defScope s_Table_write) := ⟨rfl, rfl, rfl, by decide +kernel, rfl, by decide +kernel, by decide +kernel⟩
abbrev s_Table_put : Stmt := (inClass (top 19) 3)
theorem sc_Table_put : FnScope ["self", "key", "rank", "marked", "entry"] ["self", "key", "rank", "marked"] (defScope s_Table_put) := ⟨rfl, rfl, rfl, by decide +kernel, rfl, by decide +kernel, by decide +kernel⟩
abbrev s_Table_drop : Stmt := (inClass (top 19) 4)
theorem sc_Table_drop : FnScope ["self", "key", "entry"] ["self", "key"] (defScope s_Table_drop) := ⟨rfl, rfl, rfl, by decide +kernel, rfl, by decide +kernel, by decide +kernel⟩
abbrev s_Table_change : Stmt := (inClass (top 19) 5)
theorem sc_Table_change : FnScope ["self", "key", "marked", "entry"] ["self", "key", "marked"] (defScope s_Table_change) := ⟨rfl, rfl, rfl, by decide +kernel, rfl, by decide +kernel, by decide +kernel⟩
abbrev s_Table_mark_of : Stmt := (inClass (top 19) 6)
theorem sc_Table_mark_of : FnScope ["self", "key"] ["self", "key"] (defScope s_Table_mark_of) := ⟨rfl, rfl, rfl, by decide +kernel, rfl, by decide +kernel, by decide +kernel⟩
abbrev s_Table_order : Stmt := (inClass (top 19) 7)
theorem sc_Table_order : L2.GScope ["self", "owners", "rank", "entry", "key"] ["self"] (defScope s_Table_order) := ⟨rfl, rfl, rfl, by decide +kernel, rfl, by decide +kernel, by decide +kernel⟩
abbrev s_InvalidNumber__init : Stmt := (inClass (top 2) 0)
theorem sc_InvalidNumber__init : FnScope ["self", "number"] ["self", "number"] (defScope s_InvalidNumber__init) := ⟨rfl, rfl, rfl, by decide +kernel, rfl, by decide +kernel, by decide +kernel⟩
abbrev s_InvalidMarked__init : Stmt := (inClass (top 3) 0)
theorem sc_InvalidMarked__init : FnScope ["self", "value"] ["self", "value"] (defScope s_InvalidMarked__init) := ⟨rfl, rfl, rfl, by decide +kernel, rfl, by decide +kernel, by decide +kernel⟩
abbrev s_UnknownRow__init : Stmt := (inClass (top 5) 0)
theorem sc_UnknownRow__init : FnScope ["self", "key"] ["self", "key"] (defScope s_UnknownRow__init) := ⟨rfl, rfl, rfl, by decide +kernel, rfl, by decide +kernel, by decide +kernel⟩
abbrev s_KnownRow__init : Stmt := (inClass (top 6) 0)
theorem sc_KnownRow__init : FnScope ["self", "key"] ["self", "key"] (defScope s_KnownRow__init) := ⟨rfl, rfl, rfl, by decide +kernel, rfl, by decide +kernel, by decide +kernel⟩
abbrev s_SameRank__init : Stmt := (inClass (top 7) 0)
theorem sc_SameRank__init : FnScope ["self", "rank"] ["self", "rank"] (defScope s_SameRank__init) := ⟨rfl, rfl, rfl, by decide +kernel, rfl, by decide +kernel, by decide +kernel⟩
abbrev s_law_stream : Stmt := (top 21)
theorem sc_law_stream : FnScope ["_law_script", "_law_at", "_law_here", "_law_one", "_law_two", "_law_other"] ["_law_script", "_law_at"] (defScope s_law_stream) := ⟨rfl, rfl, rfl, by decide +kernel, rfl, by decide +kernel, by decide +kernel⟩
abbrev s_law_draw : Stmt := (top 22)
theorem sc_law_draw : FnScope ["_law_stream_here", "_law_many", "_law_digit"] ["_law_stream_here", "_law_many"] (defScope s_law_draw) := ⟨rfl, rfl, rfl, by decide +kernel, rfl, by decide +kernel, by decide +kernel⟩
abbrev s_law_error : Stmt := (top 23)
theorem sc_law_error : FnScope ["_law_e", "_law_words"] ["_law_e"] (defScope s_law_error) := ⟨rfl, rfl, rfl, by decide +kernel, rfl, by decide +kernel, by decide +kernel⟩
abbrev s_law_caught : Stmt := (top 24)
theorem sc_law_caught : FnScope ["_law_act", "_law_told", "_law_e"] ["_law_act"] (defScope s_law_caught) := ⟨rfl, rfl, rfl, by decide +kernel, rfl, by decide +kernel, by decide +kernel⟩
abbrev s_law_tag : Stmt := (top 25)
theorem sc_law_tag : FnScope ["_law_stream_here", "_law_way"] ["_law_stream_here"] (defScope s_law_tag) := ⟨rfl, rfl, rfl, by decide +kernel, rfl, by decide +kernel, by decide +kernel⟩
abbrev s_law_old_tag : Stmt := (top 26)
theorem sc_law_old_tag : FnScope ["_law_stream_here", "_law_rows", "_law_way"] ["_law_stream_here", "_law_rows"] (defScope s_law_old_tag) := ⟨rfl, rfl, rfl, by decide +kernel, rfl, by decide +kernel, by decide +kernel⟩
abbrev s_law_place : Stmt := (top 27)
theorem sc_law_place : FnScope ["_law_stream_here", "_law_way"] ["_law_stream_here"] (defScope s_law_place) := ⟨rfl, rfl, rfl, by decide +kernel, rfl, by decide +kernel, by decide +kernel⟩
abbrev s_law_put : Stmt := (top 28)
theorem sc_law_put : FnScope ["_law_table", "_law_row", "_law_how"] ["_law_table", "_law_row", "_law_how"] (defScope s_law_put) := ⟨rfl, rfl, rfl, by decide +kernel, rfl, by decide +kernel, by decide +kernel⟩
abbrev s_law_put_step : Stmt := (top 29)
theorem sc_law_put_step : FnScope ["_law_stream_here", "_law_table", "_law_rows", "_law_row", "_law_how", "_law_told", "_law_old"] ["_law_stream_here", "_law_table", "_law_rows"] (defScope s_law_put_step) := ⟨rfl, rfl, rfl, by decide +kernel, rfl, by decide +kernel, by decide +kernel⟩
abbrev s_law_step : Stmt := (top 30)
theorem sc_law_step : FnScope ["_law_stream_here", "_law_table", "_law_rows", "_law_way", "_law_tag_here", "_law_mark", "_law_told", "_law_later", "_law_row"] ["_law_stream_here", "_law_table", "_law_rows"] (defScope s_law_step) := ⟨rfl, rfl, rfl, by decide +kernel, rfl, by decide +kernel, by decide +kernel⟩
abbrev s_law_fits : Stmt := (top 31)
theorem sc_law_fits : FnScope ["_law_table", "_law_rows", "_law_tags", "_law_marks", "_law_place_here", "_law_row", "_law_due", "_law_seen", "_law_again", "_law_tag_here"] ["_law_table", "_law_rows"] (defScope s_law_fits) := ⟨rfl, rfl, rfl, by decide +kernel, rfl, by decide +kernel, by decide +kernel⟩
abbrev s_law_right : Stmt := (top 32)
theorem sc_law_right : FnScope ["_law_stream_here", "_law_one", "_law_two", "_law_rows", "_law_more", "_law_turn", "_law_fine", "_law_tag_here", "_law_told", "_law_row"] ["_law_stream_here"] (defScope s_law_right) := ⟨rfl, rfl, rfl, by decide +kernel, rfl, by decide +kernel, by decide +kernel⟩
abbrev s_law : Stmt := (top 33)
theorem sc_law : FnScope ["_law_script", "_law_at"] ["_law_script"] (defScope s_law) := ⟨rfl, rfl, rfl, by decide +kernel, rfl, by decide +kernel, by decide +kernel⟩
def d_is_integer : Hk.DefE := ⟨fun K => He.ga K "is_integer", "is_integer", "is_integer", defArgs s_is_integer, defBody s_is_integer, defScope s_is_integer, [], []⟩
def d_check_range : Hk.DefE := ⟨fun K => He.ga K "check_range", "check_range", "check_range", defArgs s_check_range, defBody s_check_range, defScope s_check_range, [], []⟩
def d_check_key : Hk.DefE := ⟨fun K => He.ga K "check_key", "check_key", "check_key", defArgs s_check_key, defBody s_check_key, defScope s_check_key, [], []⟩
def d_check_rank : Hk.DefE := ⟨fun K => He.ga K "check_rank", "check_rank", "check_rank", defArgs s_check_rank, defBody s_check_rank, defScope s_check_rank, [], []⟩
def d_check_mark : Hk.DefE := ⟨fun K => He.ga K "check_mark", "check_mark", "check_mark", defArgs s_check_mark, defBody s_check_mark, defScope s_check_mark, [], []⟩
def d_Table__init : Hk.DefE := ⟨fun K => He.ma K (He.ga K "Table") "__init__", "__init__", "Table.__init__", defArgs s_Table__init, defBody s_Table__init, defScope s_Table__init, [], []⟩
def d_Table_entry_of : Hk.DefE := ⟨fun K => He.ma K (He.ga K "Table") "entry_of", "entry_of", "Table.entry_of", defArgs s_Table_entry_of, defBody s_Table_entry_of, defScope s_Table_entry_of, [], []⟩
def d_Table_write : Hk.DefE := ⟨fun K => He.ma K (He.ga K "Table") "write", "write", "Table.write", defArgs s_Table_write, defBody s_Table_write, defScope s_Table_write, [], []⟩
def d_Table_put : Hk.DefE := ⟨fun K => He.ma K (He.ga K "Table") "put", "put", "Table.put", defArgs s_Table_put, defBody s_Table_put, defScope s_Table_put, [.bl false], []⟩
def d_Table_drop : Hk.DefE := ⟨fun K => He.ma K (He.ga K "Table") "drop", "drop", "Table.drop", defArgs s_Table_drop, defBody s_Table_drop, defScope s_Table_drop, [], []⟩
def d_Table_change : Hk.DefE := ⟨fun K => He.ma K (He.ga K "Table") "change", "change", "Table.change", defArgs s_Table_change, defBody s_Table_change, defScope s_Table_change, [], []⟩
def d_Table_mark_of : Hk.DefE := ⟨fun K => He.ma K (He.ga K "Table") "mark_of", "mark_of", "Table.mark_of", defArgs s_Table_mark_of, defBody s_Table_mark_of, defScope s_Table_mark_of, [], []⟩
def d_Table_order : Hk.DefE := ⟨fun K => He.ma K (He.ga K "Table") "order", "order", "Table.order", defArgs s_Table_order, defBody s_Table_order, defScope s_Table_order, [], []⟩
def d_InvalidNumber__init : Hk.DefE := ⟨fun K => He.ma K (He.ga K "InvalidNumber") "__init__", "__init__", "InvalidNumber.__init__", defArgs s_InvalidNumber__init, defBody s_InvalidNumber__init, defScope s_InvalidNumber__init, [], []⟩
def d_InvalidMarked__init : Hk.DefE := ⟨fun K => He.ma K (He.ga K "InvalidMarked") "__init__", "__init__", "InvalidMarked.__init__", defArgs s_InvalidMarked__init, defBody s_InvalidMarked__init, defScope s_InvalidMarked__init, [], []⟩
def d_UnknownRow__init : Hk.DefE := ⟨fun K => He.ma K (He.ga K "UnknownRow") "__init__", "__init__", "UnknownRow.__init__", defArgs s_UnknownRow__init, defBody s_UnknownRow__init, defScope s_UnknownRow__init, [], []⟩
def d_KnownRow__init : Hk.DefE := ⟨fun K => He.ma K (He.ga K "KnownRow") "__init__", "__init__", "KnownRow.__init__", defArgs s_KnownRow__init, defBody s_KnownRow__init, defScope s_KnownRow__init, [], []⟩
def d_SameRank__init : Hk.DefE := ⟨fun K => He.ma K (He.ga K "SameRank") "__init__", "__init__", "SameRank.__init__", defArgs s_SameRank__init, defBody s_SameRank__init, defScope s_SameRank__init, [], []⟩
def d_law_stream : Hk.DefE := ⟨fun K => He.ga K "_law_stream", "_law_stream", "_law_stream", defArgs s_law_stream, defBody s_law_stream, defScope s_law_stream, [], []⟩
def d_law_draw : Hk.DefE := ⟨fun K => He.ga K "_law_draw", "_law_draw", "_law_draw", defArgs s_law_draw, defBody s_law_draw, defScope s_law_draw, [], []⟩
def d_law_error : Hk.DefE := ⟨fun K => He.ga K "_law_error", "_law_error", "_law_error", defArgs s_law_error, defBody s_law_error, defScope s_law_error, [], []⟩
def d_law_caught : Hk.DefE := ⟨fun K => He.ga K "_law_caught", "_law_caught", "_law_caught", defArgs s_law_caught, defBody s_law_caught, defScope s_law_caught, [], []⟩
def d_law_tag : Hk.DefE := ⟨fun K => He.ga K "_law_tag", "_law_tag", "_law_tag", defArgs s_law_tag, defBody s_law_tag, defScope s_law_tag, [], []⟩
def d_law_old_tag : Hk.DefE := ⟨fun K => He.ga K "_law_old_tag", "_law_old_tag", "_law_old_tag", defArgs s_law_old_tag, defBody s_law_old_tag, defScope s_law_old_tag, [], []⟩
def d_law_place : Hk.DefE := ⟨fun K => He.ga K "_law_place", "_law_place", "_law_place", defArgs s_law_place, defBody s_law_place, defScope s_law_place, [], []⟩
def d_law_put : Hk.DefE := ⟨fun K => He.ga K "_law_put", "_law_put", "_law_put", defArgs s_law_put, defBody s_law_put, defScope s_law_put, [], []⟩
def d_law_put_step : Hk.DefE := ⟨fun K => He.ga K "_law_put_step", "_law_put_step", "_law_put_step", defArgs s_law_put_step, defBody s_law_put_step, defScope s_law_put_step, [], []⟩
def d_law_step : Hk.DefE := ⟨fun K => He.ga K "_law_step", "_law_step", "_law_step", defArgs s_law_step, defBody s_law_step, defScope s_law_step, [], []⟩
def d_law_fits : Hk.DefE := ⟨fun K => He.ga K "_law_fits", "_law_fits", "_law_fits", defArgs s_law_fits, defBody s_law_fits, defScope s_law_fits, [], []⟩
def d_law_right : Hk.DefE := ⟨fun K => He.ga K "_law_right", "_law_right", "_law_right", defArgs s_law_right, defBody s_law_right, defScope s_law_right, [], []⟩
def d_law : Hk.DefE := ⟨fun K => He.ga K "law", "law", "law", defArgs s_law, defBody s_law, defScope s_law, [], []⟩
def fn : List Hk.DefE := [d_is_integer, d_check_range, d_check_key, d_check_rank, d_check_mark, d_Table__init, d_Table_entry_of, d_Table_write, d_Table_put, d_Table_drop, d_Table_change, d_Table_mark_of, d_Table_order, d_InvalidNumber__init, d_InvalidMarked__init, d_UnknownRow__init, d_KnownRow__init, d_SameRank__init, d_law_stream, d_law_draw, d_law_error, d_law_caught, d_law_tag, d_law_old_tag, d_law_place, d_law_put, d_law_put_step, d_law_step, d_law_fits, d_law_right, d_law]
def fa : List He.Fa := [.glo "is_integer", .glo "check_range", .glo "check_key", .glo "check_rank", .glo "check_mark", .glo "_law_stream", .glo "_law_draw", .glo "_law_error", .glo "_law_caught", .glo "_law_tag", .glo "_law_old_tag", .glo "_law_place", .glo "_law_put", .glo "_law_put_step", .glo "_law_step", .glo "_law_fits", .glo "_law_right", .glo "law", .free "isinstance", .free "int", .free "bool", .free "str", .free "abs", .free "len", .free "range", .free "max", .free "min", .free "repr", .free "list", .free "tuple", .free "dict", .free "all", .free "any", .free "sorted", .int "FARTHEST" 1000000000, .glo "Table", .cls "Table", .noat "Table" "entries", .noat "Table" "writes", .noat "Table" "size", .noat "Table" "marked", .mkr "Table", .meth "Table" "entry_of", .meth "Table" "write", .meth "Table" "put", .meth "Table" "drop", .meth "Table" "change", .meth "Table" "mark_of", .meth "Table" "order", .glo "InvalidNumber", .glo "InvalidMarked", .glo "UnknownRow", .glo "KnownRow", .glo "SameRank", .glo "InputError", .glo "LimitError", .glo "StateError"]
def exs (K : PySem.W.Frag) : List Bool := [Dt.idB K "Table", insB K "Table", errB K "InvalidNumber", noB K "InvalidNumber" "number", errB K "InvalidMarked", noB K "InvalidMarked" "value", errB K "UnknownRow", noB K "UnknownRow" "key", errB K "KnownRow", noB K "KnownRow" "key", errB K "SameRank", noB K "SameRank" "rank", decide (PySem.W.exmAny K (.ref (He.ga K "InvalidNumber")) [.ref (He.ga K "InputError"), .ref (He.ga K "LimitError"), .ref (He.ga K "StateError")] = some true), decide (PySem.W.exmAny K (.ref (He.ga K "InvalidMarked")) [.ref (He.ga K "InputError"), .ref (He.ga K "LimitError"), .ref (He.ga K "StateError")] = some true), decide (PySem.W.exmAny K (.ref (He.ga K "UnknownRow")) [.ref (He.ga K "InputError"), .ref (He.ga K "LimitError"), .ref (He.ga K "StateError")] = some true), decide (PySem.W.exmAny K (.ref (He.ga K "KnownRow")) [.ref (He.ga K "InputError"), .ref (He.ga K "LimitError"), .ref (He.ga K "StateError")] = some true), decide (PySem.W.exmAny K (.ref (He.ga K "SameRank")) [.ref (He.ga K "InputError"), .ref (He.ga K "LimitError"), .ref (He.ga K "StateError")] = some true), isiB K (.type "NoneType") (.type "int") false, isiB K (.type "bool") (.type "int") true, isiB K (.type "int") (.type "int") true, isiB K (.type "str") (.type "int") false, isiB K (.type "tuple") (.type "int") false, isiB K (.type "list") (.type "int") false, isiB K (.type "dict") (.type "int") false, isiB K (.type "int") (.type "bool") false, isiB K (.type "bool") (.type "bool") true, isiB K (.ref (He.ga K "KnownRow")) (.ref (He.ga K "KnownRow")) true, isiB K (.ref (He.ga K "KnownRow")) (.ref (He.ga K "SameRank")) false, isiB K (.ref (He.ga K "KnownRow")) (.ref (He.ga K "UnknownRow")) false, isiB K (.ref (He.ga K "SameRank")) (.ref (He.ga K "KnownRow")) false, isiB K (.ref (He.ga K "SameRank")) (.ref (He.ga K "SameRank")) true, isiB K (.ref (He.ga K "SameRank")) (.ref (He.ga K "UnknownRow")) false, isiB K (.ref (He.ga K "UnknownRow")) (.ref (He.ga K "KnownRow")) false, isiB K (.ref (He.ga K "UnknownRow")) (.ref (He.ga K "SameRank")) false, isiB K (.ref (He.ga K "UnknownRow")) (.ref (He.ga K "UnknownRow")) true]
def ex (K : PySem.W.Frag) : Bool := (exs K).all id
theorem ex_at {K : PySem.W.Frag} (c : Hk.SaysE fa fn ex K) (i : Nat) {b : Bool} (h : (exs K)[i]? = some b) : b = true := List.all_eq_true.mp c.more b (List.mem_of_getElem? h)
/-- what the top has written -/
structure Tx (K : PySem.W.Frag) (mg : Str → Option Value) : Prop where
  d_is_integer : ∃ fd, FunD K "is_integer" "is_integer" (defArgs s_is_integer) (defBody s_is_integer) (defScope s_is_integer) (d_is_integer.dvs K) (d_is_integer.kws K) (d_is_integer.adr K) fd
  g_is_integer : mg "is_integer" = some (.ref (He.ga K "is_integer"))
  d_check_range : ∃ fd, FunD K "check_range" "check_range" (defArgs s_check_range) (defBody s_check_range) (defScope s_check_range) (d_check_range.dvs K) (d_check_range.kws K) (d_check_range.adr K) fd
  g_check_range : mg "check_range" = some (.ref (He.ga K "check_range"))
  d_check_key : ∃ fd, FunD K "check_key" "check_key" (defArgs s_check_key) (defBody s_check_key) (defScope s_check_key) (d_check_key.dvs K) (d_check_key.kws K) (d_check_key.adr K) fd
  g_check_key : mg "check_key" = some (.ref (He.ga K "check_key"))
  d_check_rank : ∃ fd, FunD K "check_rank" "check_rank" (defArgs s_check_rank) (defBody s_check_rank) (defScope s_check_rank) (d_check_rank.dvs K) (d_check_rank.kws K) (d_check_rank.adr K) fd
  g_check_rank : mg "check_rank" = some (.ref (He.ga K "check_rank"))
  d_check_mark : ∃ fd, FunD K "check_mark" "check_mark" (defArgs s_check_mark) (defBody s_check_mark) (defScope s_check_mark) (d_check_mark.dvs K) (d_check_mark.kws K) (d_check_mark.adr K) fd
  g_check_mark : mg "check_mark" = some (.ref (He.ga K "check_mark"))
  d_Table__init : ∃ fd, FunD K "__init__" "Table.__init__" (defArgs s_Table__init) (defBody s_Table__init) (defScope s_Table__init) (d_Table__init.dvs K) (d_Table__init.kws K) (d_Table__init.adr K) fd
  d_Table_entry_of : ∃ fd, FunD K "entry_of" "Table.entry_of" (defArgs s_Table_entry_of) (defBody s_Table_entry_of) (defScope s_Table_entry_of) (d_Table_entry_of.dvs K) (d_Table_entry_of.kws K) (d_Table_entry_of.adr K) fd
  d_Table_write : ∃ fd, FunD K "write" "Table.write" (defArgs s_Table_write) (defBody s_Table_write) (defScope s_Table_write) (d_Table_write.dvs K) (d_Table_write.kws K) (d_Table_write.adr K) fd
  d_Table_put : ∃ fd, FunD K "put" "Table.put" (defArgs s_Table_put) (defBody s_Table_put) (defScope s_Table_put) (d_Table_put.dvs K) (d_Table_put.kws K) (d_Table_put.adr K) fd
  d_Table_drop : ∃ fd, FunD K "drop" "Table.drop" (defArgs s_Table_drop) (defBody s_Table_drop) (defScope s_Table_drop) (d_Table_drop.dvs K) (d_Table_drop.kws K) (d_Table_drop.adr K) fd
  d_Table_change : ∃ fd, FunD K "change" "Table.change" (defArgs s_Table_change) (defBody s_Table_change) (defScope s_Table_change) (d_Table_change.dvs K) (d_Table_change.kws K) (d_Table_change.adr K) fd
  d_Table_mark_of : ∃ fd, FunD K "mark_of" "Table.mark_of" (defArgs s_Table_mark_of) (defBody s_Table_mark_of) (defScope s_Table_mark_of) (d_Table_mark_of.dvs K) (d_Table_mark_of.kws K) (d_Table_mark_of.adr K) fd
  d_Table_order : ∃ fd, FunD K "order" "Table.order" (defArgs s_Table_order) (defBody s_Table_order) (defScope s_Table_order) (d_Table_order.dvs K) (d_Table_order.kws K) (d_Table_order.adr K) fd
  d_InvalidNumber__init : ∃ fd, FunD K "__init__" "InvalidNumber.__init__" (defArgs s_InvalidNumber__init) (defBody s_InvalidNumber__init) (defScope s_InvalidNumber__init) (d_InvalidNumber__init.dvs K) (d_InvalidNumber__init.kws K) (d_InvalidNumber__init.adr K) fd
  d_InvalidMarked__init : ∃ fd, FunD K "__init__" "InvalidMarked.__init__" (defArgs s_InvalidMarked__init) (defBody s_InvalidMarked__init) (defScope s_InvalidMarked__init) (d_InvalidMarked__init.dvs K) (d_InvalidMarked__init.kws K) (d_InvalidMarked__init.adr K) fd
  d_UnknownRow__init : ∃ fd, FunD K "__init__" "UnknownRow.__init__" (defArgs s_UnknownRow__init) (defBody s_UnknownRow__init) (defScope s_UnknownRow__init) (d_UnknownRow__init.dvs K) (d_UnknownRow__init.kws K) (d_UnknownRow__init.adr K) fd
  d_KnownRow__init : ∃ fd, FunD K "__init__" "KnownRow.__init__" (defArgs s_KnownRow__init) (defBody s_KnownRow__init) (defScope s_KnownRow__init) (d_KnownRow__init.dvs K) (d_KnownRow__init.kws K) (d_KnownRow__init.adr K) fd
  d_SameRank__init : ∃ fd, FunD K "__init__" "SameRank.__init__" (defArgs s_SameRank__init) (defBody s_SameRank__init) (defScope s_SameRank__init) (d_SameRank__init.dvs K) (d_SameRank__init.kws K) (d_SameRank__init.adr K) fd
  d_law_stream : ∃ fd, FunD K "_law_stream" "_law_stream" (defArgs s_law_stream) (defBody s_law_stream) (defScope s_law_stream) (d_law_stream.dvs K) (d_law_stream.kws K) (d_law_stream.adr K) fd
  g_law_stream : mg "_law_stream" = some (.ref (He.ga K "_law_stream"))
  d_law_draw : ∃ fd, FunD K "_law_draw" "_law_draw" (defArgs s_law_draw) (defBody s_law_draw) (defScope s_law_draw) (d_law_draw.dvs K) (d_law_draw.kws K) (d_law_draw.adr K) fd
  g_law_draw : mg "_law_draw" = some (.ref (He.ga K "_law_draw"))
  d_law_error : ∃ fd, FunD K "_law_error" "_law_error" (defArgs s_law_error) (defBody s_law_error) (defScope s_law_error) (d_law_error.dvs K) (d_law_error.kws K) (d_law_error.adr K) fd
  g_law_error : mg "_law_error" = some (.ref (He.ga K "_law_error"))
  d_law_caught : ∃ fd, FunD K "_law_caught" "_law_caught" (defArgs s_law_caught) (defBody s_law_caught) (defScope s_law_caught) (d_law_caught.dvs K) (d_law_caught.kws K) (d_law_caught.adr K) fd
  g_law_caught : mg "_law_caught" = some (.ref (He.ga K "_law_caught"))
  d_law_tag : ∃ fd, FunD K "_law_tag" "_law_tag" (defArgs s_law_tag) (defBody s_law_tag) (defScope s_law_tag) (d_law_tag.dvs K) (d_law_tag.kws K) (d_law_tag.adr K) fd
  g_law_tag : mg "_law_tag" = some (.ref (He.ga K "_law_tag"))
  d_law_old_tag : ∃ fd, FunD K "_law_old_tag" "_law_old_tag" (defArgs s_law_old_tag) (defBody s_law_old_tag) (defScope s_law_old_tag) (d_law_old_tag.dvs K) (d_law_old_tag.kws K) (d_law_old_tag.adr K) fd
  g_law_old_tag : mg "_law_old_tag" = some (.ref (He.ga K "_law_old_tag"))
  d_law_place : ∃ fd, FunD K "_law_place" "_law_place" (defArgs s_law_place) (defBody s_law_place) (defScope s_law_place) (d_law_place.dvs K) (d_law_place.kws K) (d_law_place.adr K) fd
  g_law_place : mg "_law_place" = some (.ref (He.ga K "_law_place"))
  d_law_put : ∃ fd, FunD K "_law_put" "_law_put" (defArgs s_law_put) (defBody s_law_put) (defScope s_law_put) (d_law_put.dvs K) (d_law_put.kws K) (d_law_put.adr K) fd
  g_law_put : mg "_law_put" = some (.ref (He.ga K "_law_put"))
  d_law_put_step : ∃ fd, FunD K "_law_put_step" "_law_put_step" (defArgs s_law_put_step) (defBody s_law_put_step) (defScope s_law_put_step) (d_law_put_step.dvs K) (d_law_put_step.kws K) (d_law_put_step.adr K) fd
  g_law_put_step : mg "_law_put_step" = some (.ref (He.ga K "_law_put_step"))
  d_law_step : ∃ fd, FunD K "_law_step" "_law_step" (defArgs s_law_step) (defBody s_law_step) (defScope s_law_step) (d_law_step.dvs K) (d_law_step.kws K) (d_law_step.adr K) fd
  g_law_step : mg "_law_step" = some (.ref (He.ga K "_law_step"))
  d_law_fits : ∃ fd, FunD K "_law_fits" "_law_fits" (defArgs s_law_fits) (defBody s_law_fits) (defScope s_law_fits) (d_law_fits.dvs K) (d_law_fits.kws K) (d_law_fits.adr K) fd
  g_law_fits : mg "_law_fits" = some (.ref (He.ga K "_law_fits"))
  d_law_right : ∃ fd, FunD K "_law_right" "_law_right" (defArgs s_law_right) (defBody s_law_right) (defScope s_law_right) (d_law_right.dvs K) (d_law_right.kws K) (d_law_right.adr K) fd
  g_law_right : mg "_law_right" = some (.ref (He.ga K "_law_right"))
  d_law : ∃ fd, FunD K "law" "law" (defArgs s_law) (defBody s_law) (defScope s_law) (d_law.dvs K) (d_law.kws K) (d_law.adr K) fd
  g_law : mg "law" = some (.ref (He.ga K "law"))
  f_isinstance : mg "isinstance" = none
  f_int : mg "int" = none
  f_bool : mg "bool" = none
  f_str : mg "str" = none
  f_abs : mg "abs" = none
  f_len : mg "len" = none
  f_range : mg "range" = none
  f_max : mg "max" = none
  f_min : mg "min" = none
  f_repr : mg "repr" = none
  f_list : mg "list" = none
  f_tuple : mg "tuple" = none
  f_dict : mg "dict" = none
  f_all : mg "all" = none
  f_any : mg "any" = none
  f_sorted : mg "sorted" = none
  c_FARTHEST : ∃ t, mg "FARTHEST" = some (.int 1000000000 t)
  g_Table : mg "Table" = some (.ref (He.ga K "Table"))
  cl_Table : Cls K (He.ga K "Table")
  n_Table_entries : NoAttr K (He.ga K "Table") "entries"
  n_Table_writes : NoAttr K (He.ga K "Table") "writes"
  n_Table_size : NoAttr K (He.ga K "Table") "size"
  n_Table_marked : NoAttr K (He.ga K "Table") "marked"
  mk_Table : Mg K (He.ga K "Table") (He.ma K (He.ga K "Table") "__init__")
  m_Table_entry_of : Meth K (He.ga K "Table") "entry_of" (He.ma K (He.ga K "Table") "entry_of")
  m_Table_write : Meth K (He.ga K "Table") "write" (He.ma K (He.ga K "Table") "write")
  m_Table_put : Meth K (He.ga K "Table") "put" (He.ma K (He.ga K "Table") "put")
  m_Table_drop : Meth K (He.ga K "Table") "drop" (He.ma K (He.ga K "Table") "drop")
  m_Table_change : Meth K (He.ga K "Table") "change" (He.ma K (He.ga K "Table") "change")
  m_Table_mark_of : Meth K (He.ga K "Table") "mark_of" (He.ma K (He.ga K "Table") "mark_of")
  m_Table_order : Meth K (He.ga K "Table") "order" (He.ma K (He.ga K "Table") "order")
  id_Table : Dt.IdOk K (He.ga K "Table")
  in_Table : InsOk K (He.ga K "Table")
  g_InvalidNumber : mg "InvalidNumber" = some (.ref (He.ga K "InvalidNumber"))
  er_InvalidNumber : ErrOk K (He.ga K "InvalidNumber") (He.ma K (He.ga K "InvalidNumber") "__init__")
  no_InvalidNumber : PySem.W.findIn K (.ref (He.ga K "InvalidNumber")) "number" = some none
  g_InvalidMarked : mg "InvalidMarked" = some (.ref (He.ga K "InvalidMarked"))
  er_InvalidMarked : ErrOk K (He.ga K "InvalidMarked") (He.ma K (He.ga K "InvalidMarked") "__init__")
  no_InvalidMarked : PySem.W.findIn K (.ref (He.ga K "InvalidMarked")) "value" = some none
  g_UnknownRow : mg "UnknownRow" = some (.ref (He.ga K "UnknownRow"))
  er_UnknownRow : ErrOk K (He.ga K "UnknownRow") (He.ma K (He.ga K "UnknownRow") "__init__")
  no_UnknownRow : PySem.W.findIn K (.ref (He.ga K "UnknownRow")) "key" = some none
  g_KnownRow : mg "KnownRow" = some (.ref (He.ga K "KnownRow"))
  er_KnownRow : ErrOk K (He.ga K "KnownRow") (He.ma K (He.ga K "KnownRow") "__init__")
  no_KnownRow : PySem.W.findIn K (.ref (He.ga K "KnownRow")) "key" = some none
  g_SameRank : mg "SameRank" = some (.ref (He.ga K "SameRank"))
  er_SameRank : ErrOk K (He.ga K "SameRank") (He.ma K (He.ga K "SameRank") "__init__")
  no_SameRank : PySem.W.findIn K (.ref (He.ga K "SameRank")) "rank" = some none
  g_InputError : mg "InputError" = some (.ref (He.ga K "InputError"))
  g_LimitError : mg "LimitError" = some (.ref (He.ga K "LimitError"))
  g_StateError : mg "StateError" = some (.ref (He.ga K "StateError"))
  xa_InvalidNumber : PySem.W.exmAny K (.ref (He.ga K "InvalidNumber")) [.ref (He.ga K "InputError"), .ref (He.ga K "LimitError"), .ref (He.ga K "StateError")] = some true
  xa_InvalidMarked : PySem.W.exmAny K (.ref (He.ga K "InvalidMarked")) [.ref (He.ga K "InputError"), .ref (He.ga K "LimitError"), .ref (He.ga K "StateError")] = some true
  xa_UnknownRow : PySem.W.exmAny K (.ref (He.ga K "UnknownRow")) [.ref (He.ga K "InputError"), .ref (He.ga K "LimitError"), .ref (He.ga K "StateError")] = some true
  xa_KnownRow : PySem.W.exmAny K (.ref (He.ga K "KnownRow")) [.ref (He.ga K "InputError"), .ref (He.ga K "LimitError"), .ref (He.ga K "StateError")] = some true
  xa_SameRank : PySem.W.exmAny K (.ref (He.ga K "SameRank")) [.ref (He.ga K "InputError"), .ref (He.ga K "LimitError"), .ref (He.ga K "StateError")] = some true
  i_NNoneType : PySem.W.kitOne K (.type "NoneType") (.type "int") = some false
  i_Nbool : PySem.W.kitOne K (.type "bool") (.type "int") = some true
  i_Nint : PySem.W.kitOne K (.type "int") (.type "int") = some true
  i_Nstr : PySem.W.kitOne K (.type "str") (.type "int") = some false
  i_Ntuple : PySem.W.kitOne K (.type "tuple") (.type "int") = some false
  i_Nlist : PySem.W.kitOne K (.type "list") (.type "int") = some false
  i_Ndict : PySem.W.kitOne K (.type "dict") (.type "int") = some false
  i_Bint : PySem.W.kitOne K (.type "int") (.type "bool") = some false
  i_Bbool : PySem.W.kitOne K (.type "bool") (.type "bool") = some true
  i_XKnownRowKnownRow : PySem.W.kitOne K (.ref (He.ga K "KnownRow")) (.ref (He.ga K "KnownRow")) = some true
  i_XKnownRowSameRank : PySem.W.kitOne K (.ref (He.ga K "KnownRow")) (.ref (He.ga K "SameRank")) = some false
  i_XKnownRowUnknownRow : PySem.W.kitOne K (.ref (He.ga K "KnownRow")) (.ref (He.ga K "UnknownRow")) = some false
  i_XSameRankKnownRow : PySem.W.kitOne K (.ref (He.ga K "SameRank")) (.ref (He.ga K "KnownRow")) = some false
  i_XSameRankSameRank : PySem.W.kitOne K (.ref (He.ga K "SameRank")) (.ref (He.ga K "SameRank")) = some true
  i_XSameRankUnknownRow : PySem.W.kitOne K (.ref (He.ga K "SameRank")) (.ref (He.ga K "UnknownRow")) = some false
  i_XUnknownRowKnownRow : PySem.W.kitOne K (.ref (He.ga K "UnknownRow")) (.ref (He.ga K "KnownRow")) = some false
  i_XUnknownRowSameRank : PySem.W.kitOne K (.ref (He.ga K "UnknownRow")) (.ref (He.ga K "SameRank")) = some false
  i_XUnknownRowUnknownRow : PySem.W.kitOne K (.ref (He.ga K "UnknownRow")) (.ref (He.ga K "UnknownRow")) = some true
theorem tx_ok {K : PySem.W.Frag} {h : Heap} {mg : Str → Option Value} (X : K.In h) (G : h.Ns mainGlobals mg) (c : Hk.SaysE fa fn ex K) : Tx K mg where
  d_is_integer := c.def_ 0 rfl
  g_is_integer := He.glo_ok X G (c.fact 0 (f := .glo "is_integer") rfl)
  d_check_range := c.def_ 1 rfl
  g_check_range := He.glo_ok X G (c.fact 1 (f := .glo "check_range") rfl)
  d_check_key := c.def_ 2 rfl
  g_check_key := He.glo_ok X G (c.fact 2 (f := .glo "check_key") rfl)
  d_check_rank := c.def_ 3 rfl
  g_check_rank := He.glo_ok X G (c.fact 3 (f := .glo "check_rank") rfl)
  d_check_mark := c.def_ 4 rfl
  g_check_mark := He.glo_ok X G (c.fact 4 (f := .glo "check_mark") rfl)
  d_Table__init := c.def_ 5 rfl
  d_Table_entry_of := c.def_ 6 rfl
  d_Table_write := c.def_ 7 rfl
  d_Table_put := c.def_ 8 rfl
  d_Table_drop := c.def_ 9 rfl
  d_Table_change := c.def_ 10 rfl
  d_Table_mark_of := c.def_ 11 rfl
  d_Table_order := c.def_ 12 rfl
  d_InvalidNumber__init := c.def_ 13 rfl
  d_InvalidMarked__init := c.def_ 14 rfl
  d_UnknownRow__init := c.def_ 15 rfl
  d_KnownRow__init := c.def_ 16 rfl
  d_SameRank__init := c.def_ 17 rfl
  d_law_stream := c.def_ 18 rfl
  g_law_stream := He.glo_ok X G (c.fact 5 (f := .glo "_law_stream") rfl)
  d_law_draw := c.def_ 19 rfl
  g_law_draw := He.glo_ok X G (c.fact 6 (f := .glo "_law_draw") rfl)
  d_law_error := c.def_ 20 rfl
  g_law_error := He.glo_ok X G (c.fact 7 (f := .glo "_law_error") rfl)
  d_law_caught := c.def_ 21 rfl
  g_law_caught := He.glo_ok X G (c.fact 8 (f := .glo "_law_caught") rfl)
  d_law_tag := c.def_ 22 rfl
  g_law_tag := He.glo_ok X G (c.fact 9 (f := .glo "_law_tag") rfl)
  d_law_old_tag := c.def_ 23 rfl
  g_law_old_tag := He.glo_ok X G (c.fact 10 (f := .glo "_law_old_tag") rfl)
  d_law_place := c.def_ 24 rfl
  g_law_place := He.glo_ok X G (c.fact 11 (f := .glo "_law_place") rfl)
  d_law_put := c.def_ 25 rfl
  g_law_put := He.glo_ok X G (c.fact 12 (f := .glo "_law_put") rfl)
  d_law_put_step := c.def_ 26 rfl
  g_law_put_step := He.glo_ok X G (c.fact 13 (f := .glo "_law_put_step") rfl)
  d_law_step := c.def_ 27 rfl
  g_law_step := He.glo_ok X G (c.fact 14 (f := .glo "_law_step") rfl)
  d_law_fits := c.def_ 28 rfl
  g_law_fits := He.glo_ok X G (c.fact 15 (f := .glo "_law_fits") rfl)
  d_law_right := c.def_ 29 rfl
  g_law_right := He.glo_ok X G (c.fact 16 (f := .glo "_law_right") rfl)
  d_law := c.def_ 30 rfl
  g_law := He.glo_ok X G (c.fact 17 (f := .glo "law") rfl)
  f_isinstance := He.free_ok X G (c.fact 18 (f := .free "isinstance") rfl)
  f_int := He.free_ok X G (c.fact 19 (f := .free "int") rfl)
  f_bool := He.free_ok X G (c.fact 20 (f := .free "bool") rfl)
  f_str := He.free_ok X G (c.fact 21 (f := .free "str") rfl)
  f_abs := He.free_ok X G (c.fact 22 (f := .free "abs") rfl)
  f_len := He.free_ok X G (c.fact 23 (f := .free "len") rfl)
  f_range := He.free_ok X G (c.fact 24 (f := .free "range") rfl)
  f_max := He.free_ok X G (c.fact 25 (f := .free "max") rfl)
  f_min := He.free_ok X G (c.fact 26 (f := .free "min") rfl)
  f_repr := He.free_ok X G (c.fact 27 (f := .free "repr") rfl)
  f_list := He.free_ok X G (c.fact 28 (f := .free "list") rfl)
  f_tuple := He.free_ok X G (c.fact 29 (f := .free "tuple") rfl)
  f_dict := He.free_ok X G (c.fact 30 (f := .free "dict") rfl)
  f_all := He.free_ok X G (c.fact 31 (f := .free "all") rfl)
  f_any := He.free_ok X G (c.fact 32 (f := .free "any") rfl)
  f_sorted := He.free_ok X G (c.fact 33 (f := .free "sorted") rfl)
  c_FARTHEST := He.int_ok X G (c.fact 34 (f := .int "FARTHEST" 1000000000) rfl)
  g_Table := He.glo_ok X G (c.fact 35 (f := .glo "Table") rfl)
  cl_Table := He.cls_ok (c.fact 36 (f := .cls "Table") rfl)
  n_Table_entries := He.noat_ok (c.fact 37 (f := .noat "Table" "entries") rfl)
  n_Table_writes := He.noat_ok (c.fact 38 (f := .noat "Table" "writes") rfl)
  n_Table_size := He.noat_ok (c.fact 39 (f := .noat "Table" "size") rfl)
  n_Table_marked := He.noat_ok (c.fact 40 (f := .noat "Table" "marked") rfl)
  mk_Table := mg_ok (c.fact 41 (f := .mkr "Table") rfl)
  m_Table_entry_of := He.meth_ok (c.fact 42 (f := .meth "Table" "entry_of") rfl)
  m_Table_write := He.meth_ok (c.fact 43 (f := .meth "Table" "write") rfl)
  m_Table_put := He.meth_ok (c.fact 44 (f := .meth "Table" "put") rfl)
  m_Table_drop := He.meth_ok (c.fact 45 (f := .meth "Table" "drop") rfl)
  m_Table_change := He.meth_ok (c.fact 46 (f := .meth "Table" "change") rfl)
  m_Table_mark_of := He.meth_ok (c.fact 47 (f := .meth "Table" "mark_of") rfl)
  m_Table_order := He.meth_ok (c.fact 48 (f := .meth "Table" "order") rfl)
  id_Table := Dt.idB_ok (ex_at c 0 rfl)
  in_Table := insB_ok (He.cls_ok (c.fact 36 (f := .cls "Table") rfl)) (ex_at c 1 rfl)
  g_InvalidNumber := He.glo_ok X G (c.fact 49 (f := .glo "InvalidNumber") rfl)
  er_InvalidNumber := errB_ok (ex_at c 2 rfl)
  no_InvalidNumber := noB_ok (ex_at c 3 rfl)
  g_InvalidMarked := He.glo_ok X G (c.fact 50 (f := .glo "InvalidMarked") rfl)
  er_InvalidMarked := errB_ok (ex_at c 4 rfl)
  no_InvalidMarked := noB_ok (ex_at c 5 rfl)
  g_UnknownRow := He.glo_ok X G (c.fact 51 (f := .glo "UnknownRow") rfl)
  er_UnknownRow := errB_ok (ex_at c 6 rfl)
  no_UnknownRow := noB_ok (ex_at c 7 rfl)
  g_KnownRow := He.glo_ok X G (c.fact 52 (f := .glo "KnownRow") rfl)
  er_KnownRow := errB_ok (ex_at c 8 rfl)
  no_KnownRow := noB_ok (ex_at c 9 rfl)
  g_SameRank := He.glo_ok X G (c.fact 53 (f := .glo "SameRank") rfl)
  er_SameRank := errB_ok (ex_at c 10 rfl)
  no_SameRank := noB_ok (ex_at c 11 rfl)
  g_InputError := He.glo_ok X G (c.fact 54 (f := .glo "InputError") rfl)
  g_LimitError := He.glo_ok X G (c.fact 55 (f := .glo "LimitError") rfl)
  g_StateError := He.glo_ok X G (c.fact 56 (f := .glo "StateError") rfl)
  xa_InvalidNumber := of_decide_eq_true (ex_at c 12 rfl)
  xa_InvalidMarked := of_decide_eq_true (ex_at c 13 rfl)
  xa_UnknownRow := of_decide_eq_true (ex_at c 14 rfl)
  xa_KnownRow := of_decide_eq_true (ex_at c 15 rfl)
  xa_SameRank := of_decide_eq_true (ex_at c 16 rfl)
  i_NNoneType := isiB_ok (ex_at c 17 rfl)
  i_Nbool := isiB_ok (ex_at c 18 rfl)
  i_Nint := isiB_ok (ex_at c 19 rfl)
  i_Nstr := isiB_ok (ex_at c 20 rfl)
  i_Ntuple := isiB_ok (ex_at c 21 rfl)
  i_Nlist := isiB_ok (ex_at c 22 rfl)
  i_Ndict := isiB_ok (ex_at c 23 rfl)
  i_Bint := isiB_ok (ex_at c 24 rfl)
  i_Bbool := isiB_ok (ex_at c 25 rfl)
  i_XKnownRowKnownRow := isiB_ok (ex_at c 26 rfl)
  i_XKnownRowSameRank := isiB_ok (ex_at c 27 rfl)
  i_XKnownRowUnknownRow := isiB_ok (ex_at c 28 rfl)
  i_XSameRankKnownRow := isiB_ok (ex_at c 29 rfl)
  i_XSameRankSameRank := isiB_ok (ex_at c 30 rfl)
  i_XSameRankUnknownRow := isiB_ok (ex_at c 31 rfl)
  i_XUnknownRowKnownRow := isiB_ok (ex_at c 32 rfl)
  i_XUnknownRowSameRank := isiB_ok (ex_at c 33 rfl)
  i_XUnknownRowUnknownRow := isiB_ok (ex_at c 34 rfl)
end Toy

set_option Elab.async false
set_option linter.all false
set_option maxRecDepth 100000
set_option maxHeartbeats 4000000
namespace Toy
open PySem PySem.Spec PyProof.Rows L2 My Dt SX
def tf : List He.Defn := [("_law_put_step", none), ("_law_step", none), ("_law_right", none)]
def ex2 (K : PySem.W.Frag) : Bool := ex K && decide ((He.cT K ("_law_put_step", none)).2 ≠ (He.cT K ("_law_step", none)).2 ∧ (He.cT K ("_law_put_step", none)).2 ≠ (He.cT K ("_law_right", none)).2 ∧ (He.cT K ("_law_step", none)).2 ≠ (He.cT K ("_law_right", none)).2)
abbrev R : PySem.W.OpenRow := PySem.W.OpenLaw.row PySem.Challenge.rw_drawclaims_k73_tables_by_a_list
abbrev hk : PySem.W.Hook := Hk.hookF 6 fa fn tf ex2
def ob (s : PySem.W.SharedT) : Bool × Hk.AlE := Hk.obsFG 6 fa fn tf ex2 (HandSHeadRun.getT s)
theorem ob_eq (s : PySem.W.SharedT) : ob s = hk.obs s.abs := Hk.obsFG_eq (HandSHeadRun.getT_eq s)
def loose : List Str := (["InputError", "InvalidNumber", "InvalidMarked", "StateError", "UnknownRow", "KnownRow", "SameRank", "LimitError", "is_integer", "check_range", "FARTHEST", "check_key", "check_rank", "check_mark", "Table", "_law_stream", "_law_draw", "_law_error", "_law_caught", "_law_tag", "_law_old_tag", "_law_place", "_law_put", "_law_put_step", "_law_step"] : List Str) ++ (["_law_fits", "_law_right"] : List Str)
theorem headRunT (w : World) : HandSHeadRun.RunEq R (PySem.W.view R.prog [33]) hk ob 6000 loose w := by
  intro os
  kernel_rfl
end Toy

set_option Elab.async false
set_option linter.all false
set_option maxRecDepth 100000
set_option maxHeartbeats 4000000
/-! DatX: list(range(n)) -/
namespace Dt
open PySem PySem.Spec PyProof.Rows L2 My He SX
section
variable {G : Cf} {X : Cx} {en : En} {W W1 : Wd} {σ : L2.St} {H H1 : Hp} {ρ : List Sl} {S S1 : Sto} {pins : List (Addr × Obj)} {s s1 : Shared} {e : Expr} {te : RE} {pos p p2 pos2 : Pos}
theorem Reps.rg {K : PySem.W.Frag} {W : Wd} (a b : Int) : Reps K W (rngD a (b - a).toNat) (rgV a b) := by
  unfold rngD rgV
  generalize List.range (b - a).toNat = l
  induction l with
  | nil => exact .nil
  | cons i l ih => exact .cons (.int _) ih
end
section
variable {B : Bs} {k : Nat} {S : Sto} {Ex : XS} {Q : QO} {o : O}
end
section
variable {G : Cf} {pos : Pos} {te : RE}
/-- (x, y) = (a, b) with names that inner blocks read -/
theorem ds_asgS {tg e : Expr} {g : RG} {vs : List Nat} (he : DE G e te) (hg : DG G tg vs g) (hw : ∀ env : Env, env.scope = G.sc → swappedStores [tg] e env = pure none) (hs : ∀ env : Env, swapsWithSole [tg] e pos.line env = pure false := by intro _; rfl)
    (h1 : ∀ env : Env, (assignEach [tg] env).map (·.2) = [assign tg env] := by intro _; rfl) : DS G (.Assign [tg] e pos) (dAsg te g) := by
  refine ⟨fun {X en W σ H ρ S pins s D} z q => wpAny_Assign_stores (he.at z q fun v s1 x' H1 W1 o S1 z1 g1 r1 ro ⟨d, e1, q1⟩ => ?_) (hs _) (hw _ z.hf.sc)⟩
  subst e1
  rw [h1]
  exact thn (hg.run z1 ro r1 q1) fun _ s2 ⟨σ2, H2, W2, ρ2, S2, z2, ⟨l2, q2⟩, _⟩ => ⟨σ2, H2, z2.I, W2, ρ2, S2, z2.rs, g1.le.trans l2, q2⟩
end
end Dt

set_option Elab.async false
set_option linter.all false
set_option maxRecDepth 100000
set_option maxHeartbeats 4000000
/-! DatY: errors with one field; isinstance of a handled error -/
namespace Dt
open PySem PySem.Spec PyProof.Rows L2 My He
open PySem.HandSPX
section
theorem spErr_of {C : Addr} {f : Str} {vs : List V} {H : Hp} {Q : VK} {E : XK} (h : spErrL C [f] vs H Q E) : spErr C f vs H Q E := by
  obtain ⟨a, ws, rfl, hl, ha, k⟩ := h
  match ws, hl with
  | [v], _ => exact ⟨a, v, rfl, ha, fun dx hd hne => k dx _ hd hne upd_same (by rw [upd_ne hne]; exact upd_same) fun q h1 h2 => by rw [upd_ne h1, upd_ne h2]⟩
theorem erd_one {B : Bs} {C f : Str} {fd : FuncData} {ps : List Str} (er : ErrOk B.K (He.ga B.K C) (mAd B.K C "__init__")) (g : B.mg C = some (.ref (He.ga B.K C))) (F : FnOk B.P B.w B.K B.mg B.base CX0 1 (mAd B.K C "__init__") fd ps (spErr (He.ga B.K C) f)) (hb : Binds B.K fd ps []) : ErD B C [f] :=
  ⟨er, g, fd, ps, F.imp fun _ _ _ _ h => spErr_of h, hb⟩
end
section
variable {G : Cf} {p p1 p2 pos : Pos} {x y : Str}
/-- isinstance(e, C), e the handled error -/
abbrev dXi (K : PySem.W.Frag) (i : Nat) (y : Str) : RE := fun ρ S E Q => ∃ C fs g b, ρ[i]? = some (.exc C fs) ∧ fs ≠ [] ∧ ErrOk K (ga K C) g ∧ PySem.W.kitOne K (.ref (ga K C)) (.ref (ga K y)) = some b ∧ Q (.v (.bl b)) S
theorem de_xi {i : Nat} (hg : Glb G "isinstance") (hm : G.B.mg "isinstance" = none) (hi : G.N[i]? = some x) (hv : Vis G.sc x) (hc : Glb G y) (hy : G.B.mg y = some (.ref (He.ga G.B.K y))) (hd : (x == ("__debug__" : Str)) = false := by decide) (hcd : (x == ("__classdict__" : Str)) = false := by decide) (hdy : (y == ("__debug__" : Str)) = false := by decide)
    (he : ∀ env : Env, starEach [.Name x p1, .Name y p2] env = (false, eval (.Name x p1) env) :: starEach [.Name y p2] env := by intro _; rfl) (he2 : ∀ env : Env, starEach [.Name y p2] env = (false, eval (.Name y p2) env) :: starEach [] env := by intro _; rfl) (hpl : ∀ env : Env, (backTo pos (starEach [.Name y p2] env)).any (·.1) = false := by intro _; rfl) :
    DE G (.Call (.Name "isinstance" p) [.Name x p1, .Name y p2] [] pos) (dXi G.B.K i y) := by
  refine ⟨fun {X en W σ H ρ S E pins s Q} z ⟨C, fs, g, b, e1, hne, T, e, q⟩ => ?_⟩
  have P0 : PE X (.Name x p1) (tVar i) := z.name hi hv hd hcd
  obtain ⟨pp, ep, e2, hcls, hdict⟩ := z.rs.sl i _ e1
  refine wpAny_Call_Name_kw (ld_blt z.I (gl_of z.hf.sc hg) (by rw [z.hf.b.mg]; exact hm) (u := .builtin "isinstance") (by decide +kernel) ?_)
  refine PyProof.Rows.callWith_builtin1 ?_ (he _) (hpl _)
  refine args_cons (thn (P0.run pins s σ H (fun v' H' => v' = .ref pp.1 ∧ H' = H) z.I ⟨_, e2, rfl, rfl⟩) fun u s1 ⟨v', H1, I1, rx, ev, eh⟩ => ?_) (he _)
  subst ev eh
  obtain rfl : u = Value.ref pp.1 := rx
  refine args_cons ((de_cls hc hy hdy).at (⟨z.hf, z.tk, z.rs, I1⟩ : At G X en W σ H1 ρ S E pins s1) (Kq := fun o S3 => o = .v (.cls y) ∧ S3 = S) ⟨rfl, rfl⟩ fun v s2 x' H2 W2 o S2 z2 g2 r2 ro2 ⟨eo, es⟩ => args_nil ?_) (he2 _)
  subst eo es
  cases ro2
  obtain rfl : v = Value.ref (ga G.B.K y) := r2
  have I2 := z2.I
  obtain ⟨hpn, vs, hd3⟩ := z.hf.b.pin pp ep
  obtain ⟨ha, _⟩ := I2.pin pp (List.mem_append_left _ hpn)
  rcases hdict with ⟨e0, _⟩ | ⟨dd, ws, ed, ea, rf⟩
  · exact absurd e0 hne
  have ea2 := z2.rs.ho.fh _ _ (g2.le.f _ _ ea)
  have hx : ObjOk X.prog X.w H2 s2.heap dd (.xd ws) := I2.hok dd _ ea2
  obtain ⟨mA, hns, hr⟩ := hx
  obtain ⟨od, ho, hl⟩ := lookIn_ns hns
  have J : PySem.W.InstAt s2.heap pp.1 pp.2 (ga G.B.K C) (some od) := ⟨ha, hcls, by unfold PySem.W.notCls; rw [hd3] <;> rfl, by rw [ed]; exact ho⟩
  have kI : G.B.K.In s2.heap := by
    have := I2.kIn
    rw [z.hf.b.K] at this
    exact this
  exact PySem.W.kia_one (PySem.W.kitx_exc T.cl T.xf.ga T.xf.gg T.xf.exC T.ca T.hn T.tk T.mo) kI J e (fun z => nomatch z) fun tk => ⟨.bl b, H2, I2.tok tk, rfl, W2, .v (.bl b), S2, z2.rs.ho, g2, .bl b, q⟩
end
section
variable {G : Cf} {pos : Pos} {te : RE}
/-- x = y = e -/
def dAsg2 (te : RE) (g1 g2 : RG) : RS := fun D ρ S => te ρ S D.ex fun o S1 => ∃ d, o = .v d ∧ g1 d ρ S1 D.ex fun ρ2 S2 => g2 d ρ2 S2 D.ex D.nx
theorem q_asg2 {g1 g2 : RG} {nx bk ct : List Sl → Sto → Prop} {rt : D → List Sl → Sto → Prop} {ex : XD} {ρ : List Sl} {S : Sto} (h : te ρ S ex fun o S1 => ∃ d, o = .v d ∧ g1 d ρ S1 ex fun ρ2 S2 => g2 d ρ2 S2 ex nx) : dAsg2 te g1 g2 ⟨nx, rt, bk, ct, ex⟩ ρ S := h
end
end Dt

set_option Elab.async false
set_option linter.all false
set_option maxRecDepth 100000
set_option maxHeartbeats 4000000
/-! DatZ: repr of plain trees whose text is short -/
namespace Dt
open PySem PySem.Spec PyProof.Rows L2 My He SX
/-- what repr gives of a plain tree -/
@[irreducible] def shD (d : D) : Str := match pd d with
  | some p => p.shown
  | none => Str.empty
structure Fp (p : PyData) (w e : Nat) : Prop where
  nd : p.hasDict = false
  sh : p.showable = true
  dp : p.depth ≤ e
  lv : p.leavesShort 13 = true
  wt : p.weight ≤ w
structure Fps (ps : List PyData) (w e : Nat) : Prop where
  nd : PyData.hasDictAll ps = false
  sh : PyData.showableAll ps = true
  dp : PyData.depthAll ps ≤ e
  lv : PyData.leavesShortAll 13 ps = true
  wt : PyData.weightAll ps ≤ w
/-- a plain tree with a short text -/
def Fd (d : D) (w e : Nat) : Prop := ∃ p, pd d = some p ∧ Fp p w e
def Fds (ds : List D) (w e : Nat) : Prop := ∃ ps, pds ds = some ps ∧ Fps ps w e
theorem Fd.non : Fd .non 0 0 := ⟨_, rfl, rfl, rfl, Nat.le_refl _, rfl, Nat.le_refl _⟩
theorem Fd.bl (b : Bool) : Fd (.bl b) 0 0 := ⟨_, rfl, rfl, rfl, Nat.le_refl _, rfl, Nat.le_refl _⟩
theorem Fd.int {i : Int} (h1 : -1000000000 < i) (h2 : i < 1000000000) : Fd (.int i) 31 0 := by
  have hb : i.natAbs < 2 ^ 30 := by omega
  have hl : i.natAbs.log2 < 30 := by
    by_cases z : i.natAbs = 0
    · rw [z]
      decide
    · exact (Nat.log2_lt z).mpr hb
  refine ⟨_, rfl, rfl, ?_, Nat.le_refl _, ?_, ?_⟩
  · simp only [PyData.showable]
    exact decide_eq_true (by omega)
  · simp only [PyData.leavesShort]
    refine decide_eq_true ?_
    show (Str.ofString (toString i)).length ≤ 13
    have h := intL_len (k := 12) (i := i) (by decide) (by omega) (by omega)
    rw [txt_int, S_len]
    omega
  · simp only [PyData.weight]
    split <;> omega
theorem Fd.str {l : List Nat} (h : ∀ c ∈ l, c < 128) : Fd (.str (S l)) l.length 0 := by
  refine ⟨_, rfl, rfl, rfl, Nat.le_refl _, ?_, ?_⟩
  · simp only [PyData.leavesShort]
    exact List.all_eq_true.mpr fun c hc => decide_eq_true (Nat.lt_trans (h c hc) (by decide))
  · simp only [PyData.weight]
    exact Nat.le_of_eq (S_len l)
theorem Fds.nil : Fds [] 0 0 := ⟨[], rfl, rfl, rfl, Nat.le_refl _, rfl, Nat.le_refl _⟩
theorem Fds.cons {d : D} {ds : List D} {w1 w2 e1 e2 : Nat} (h : Fd d w1 e1) (t : Fds ds w2 e2) : Fds (d :: ds) (w1 + 1 + w2) (max e1 e2) := by
  obtain ⟨p, e, f⟩ := h
  obtain ⟨ps, es, g⟩ := t
  refine ⟨p :: ps, ?_, ?_, ?_, ?_, ?_, ?_⟩
  · show (match pd d, pds ds with | some d, some ds => some (d :: ds) | _, _ => none) = _
    rw [e, es]
  · rw [PyData.hasDictAll, f.nd, g.nd] <;> rfl
  · rw [PyData.showableAll, f.sh, g.sh] <;> rfl
  · rw [PyData.depthAll]
    have := f.dp
    have := g.dp
    omega
  · rw [PyData.leavesShortAll, f.lv, g.lv] <;> rfl
  · rw [PyData.weightAll]
    have := f.wt
    have := g.wt
    omega
theorem Fd.mono {d : D} {w e w' e' : Nat} (h : Fd d w e) (h1 : w ≤ w') (h2 : e ≤ e') : Fd d w' e' := let ⟨p, k, f⟩ := h; ⟨p, k, f.nd, f.sh, Nat.le_trans f.dp h2, f.lv, Nat.le_trans f.wt h1⟩
theorem Fds.mono {d : List D} {w e w' e' : Nat} (h : Fds d w e) (h1 : w ≤ w') (h2 : e ≤ e') : Fds d w' e' := let ⟨p, k, f⟩ := h; ⟨p, k, f.nd, f.sh, Nat.le_trans f.dp h2, f.lv, Nat.le_trans f.wt h1⟩
theorem Fd.tup {ds : List D} {w e : Nat} (h : Fds ds w e) : Fd (.tup ds) w (e + 1) := by
  obtain ⟨ps, k, f⟩ := h
  refine ⟨.tuple ps, ?_, ?_, ?_, ?_, ?_, ?_⟩
  · show (pds ds).map PyData.tuple = _
    rw [k] <;> rfl
  · rw [PyData.hasDict]; exact f.nd
  · rw [PyData.showable]; exact f.sh
  · rw [PyData.depth]; exact Nat.succ_le_succ f.dp
  · rw [PyData.leavesShort]; exact f.lv
  · rw [PyData.weight]; exact f.wt
theorem Fd.lst {ds : List D} {w e : Nat} (h : Fds ds w e) : Fd (.lst ds) w (e + 1) := by
  obtain ⟨ps, k, f⟩ := h
  refine ⟨.list ps, ?_, ?_, ?_, ?_, ?_, ?_⟩
  · show (pds ds).map PyData.list = _
    rw [k] <;> rfl
  · rw [PyData.hasDict]; exact f.nd
  · rw [PyData.showable]; exact f.sh
  · rw [PyData.depth]; exact Nat.succ_le_succ f.dp
  · rw [PyData.leavesShort]; exact f.lv
  · rw [PyData.weight]; exact f.wt
theorem Fds.map {α : Type} {f : α → D} {w e : Nat} : ∀ {xs : List α}, (∀ x ∈ xs, Fd (f x) w e) → Fds (xs.map f) ((w + 1) * xs.length) e
  | [], _ => Fds.nil.mono (Nat.zero_le _) (Nat.zero_le _)
  | x :: xs, h => (Fds.cons (h x List.mem_cons_self) (Fds.map fun y hy => h y (List.mem_cons_of_mem _ hy))).mono (by rw [List.length_cons, Nat.mul_succ]; omega) (by omega)
section
variable {B : Bs} {k : Nat} {S0 : Sto} {Ex : XS} {Q : QO}
theorem s_neSame {x y : Str} (e : x = y) (q : Q (.v (.bl false)) S0) : sem2 B k (compareOp .NotEq) (.v (.str x)) (.v (.str y)) S0 Ex Q := s_neS (by rw [decide_eq_true e]; exact q)
theorem s_eqSame {x y : Str} (e : x = y) (q : Q (.v (.bl true)) S0) : sem2 B k (compareOp .Eq) (.v (.str x)) (.v (.str y)) S0 Ex Q := s_eqS (by rw [decide_eq_true e]; exact q)
end
end Dt

set_option Elab.async false
set_option linter.all false
set_option maxRecDepth 100000
set_option maxHeartbeats 4000000
/-! DatZ1: text[::-1], == of tuples of texts -/
namespace Dt
open PySem PySem.Spec PyProof.Rows L2 My He SX
section
variable {G : Cf} {X : Cx} {en : En} {W W1 : Wd} {σ : L2.St} {H H1 : Hp} {ρ : List Sl} {S S1 : Sto} {E : XD} {pins : List (Addr × Obj)} {s s1 : Shared} {e : Expr} {te : RE} {pos p p1 p2 p3 : Pos}
end
theorem atI_nat {α : Type} {xs : List α} {i : Nat} {x : α} (h : xs[i]? = some x) : L2.atI xs (i : Int) = some x := by
  have hi := (List.getElem?_eq_some_iff.mp h).1
  unfold L2.atI ixN
  rw [if_pos (by omega), if_pos (by omega)]
  show xs[((i : Nat) : Int).toNat]? = _
  rw [Int.toNat_natCast]
  exact h
section
variable {B : Bs} {k : Nat} {S : Sto} {Ex : XS} {Q : QO} {i : Int}
end
end Dt

set_option Elab.async false
set_option linter.all false
set_option maxRecDepth 100000
set_option maxHeartbeats 4000000
/-! DatZ2: enumerate(list); errors with two fields -/
namespace Dt
open PySem PySem.Spec PyProof.Rows L2 My He SX
section
variable {G : Cf} {X : Cx} {en : En} {W W1 : Wd} {σ : L2.St} {H H1 : Hp} {ρ : List Sl} {S S1 : Sto} {E : XD} {pins : List (Addr × Obj)} {s s1 : Shared} {a : Expr} {tA : RA} {pos p : Pos}
end
end Dt

set_option Elab.async false
set_option linter.all false
set_option maxRecDepth 100000
set_option maxHeartbeats 4000000
/-! DatZ3: is, is not of truth values -/
namespace Dt
open PySem PySem.Spec PyProof.Rows L2 My He SX
section
variable {B : Bs} {k : Nat} {S : Sto} {Ex : XS} {Q : QO} {a b : Bool}
end
end Dt

set_option Elab.async false
set_option linter.all false
set_option maxRecDepth 100000
set_option maxHeartbeats 4000000
/-! DatZ4: sum of a tuple; isinstance of a handled error and a built-in class -/
namespace Dt
open PySem PySem.Spec PyProof.Rows L2 My He SX
section
variable {prog : Program} {w : World} {A : Around} {E : Value → Shared → Prop} {s : Shared} {l : Addr} {its : List Value} {ns : List Int} {Q : Value → Shared → Prop}
end
section
variable {B : Bs} {k : Nat} {S : Sto} {Ex : XS} {Q : QO}
end
section
variable {G : Cf} {p p1 p2 pos : Pos} {x y : Str} {n : String}
end
section
variable {G : Cf} {X : Cx} {en : En} {W W1 : Wd} {σ : L2.St} {H H1 : Hp} {ρ : List Sl} {S S1 : Sto} {E : XD} {pins : List (Addr × Obj)} {s s1 : Shared} {o : Expr} {to : RE} {pos apos : Pos} {m : Str}
end
end Dt

set_option Elab.async false
set_option linter.all false
set_option maxRecDepth 100000
set_option maxHeartbeats 4000000
/-! DatZ5: a dict's value by its key -/
namespace Dt
open PySem PySem.Spec PyProof.Rows L2 My He SX
section
variable {B : Bs} {k : Nat} {S : Sto} {Ex : XS} {Q : QO} {i : Key}
theorem s_ixK {o : O} {xs : List (Key × D)} {d : D} (h : DcO S o xs) (e : valD xs i = some d) (q : Q (.v d) S) : sIx B k o (.v (kD i)) S Ex Q := by
  intro X en W σ H ft tk ho x' y' rx ry value slice pins s v u I rv ru hs
  obtain ⟨a, vs, rfl, ea, r⟩ := dcO_at ho h rx
  obtain rfl := rep_key ry
  obtain rfl : v = Value.ref a := rv
  rcases r.val i with ⟨e1, e2⟩ | ⟨d', w, e1, e2, rw_⟩
  · rw [e1] at e
    cases e
  · rw [e1] at e
    cases e
    have g := DGet.k (k := i) ea
    rw [e2] at g
    have hT := dict_typeIs I g
    unfold subscriptTail
    refine wpAny_bind ?_
    rw [getitemInPython_of_ne hT.not_modules]
    refine wpAny_bind (wpAny_specialOf hT PySem.F.slot_dict_getitem.lookup ?_)
    have fin : wpAny (model X.prog X.w) X.A (subscripted slice false (.ref a) u) (fun r s₃ => wpAny (model X.prog X.w) X.A (letTemporaryGo value (.ref a) r >>= fun _ => pure r) (EP X pins σ (Nx B.K en W H Q)) X.xe s₃) X.xe s := by
      rw [hs]
      exact wpAny_operating (d_getItem (by have := ft.units; omega) I g ru fun w' s3 I3 rr => wpAny_bind (wpAny_letTemporaryGo (wpAny_pure ⟨w, H, I3, rr, W, .v d, S, ho, .refl, rw_, q⟩)))
    first
      | exact wpAny_pure (wpAny_bind fin)
      | exact wpAny_bind fin
end
end Dt

set_option Elab.async false
set_option linter.all false
set_option maxRecDepth 100000
set_option maxHeartbeats 4000000
/-! DatZ6: name = {k: v for ..}, the name a local of the def -/
namespace Dt
open PySem PySem.Spec PyProof.Rows L2 My He SX
theorem ps_setDcO {X : Cx} {i : Nat} {y : Str} {py : Pos} {kx vx tg iter : Expr} {ifs : List Expr} {scope : Scope} {own : List (Str × Nat)} {pos spos : Pos} {wi : TI} {g : TG} {tt : TT} {tk tv : TE} (hc : X.calm = true) (nd : X.N.Nodup) (hy : X.N[i]? = some y) (hyl : X.env.scope.names.lookup y = some .local)
    (sw : swapsWith (.DictComp kx vx [⟨tg, iter, ifs, 0⟩] scope pos) (some (.Name y py)) spos.line X.env = pure true) (hi : PI X tg iter wi) (ok : BlkOk X.N X.env.scope scope own)
    (hg : ∀ (s : Shared) (H : Hp) (C : Addr) (cl : List (Str × Addr)) (fp : List Addr), PG (X.blk s H scope (compEnvC scope cl C X.env) fp) tg g) (ht : ∀ (s : Shared) (H : Hp) (C : Addr) (cl : List (Str × Addr)) (fp : List Addr), PTs (X.blk s H scope (compEnvC scope cl C X.env) fp) ifs tt)
    (hk : ∀ (s : Shared) (H : Hp) (C : Addr) (cl : List (Str × Addr)) (fp : List Addr), PE (X.blk s H scope (compEnvC scope cl C X.env) fp) kx tk)
    (hv : ∀ (s : Shared) (H : Hp) (C : Addr) (cl : List (Str × Addr)) (fp : List Addr), PE (X.blk s H scope (compEnvC scope cl C X.env) fp) vx tv) (hs : ∀ x, foldedSetIterable iter X.env x = pure x) :
    PS X (.Assign [.Name y py] (.DictComp kx vx [⟨tg, iter, ifs, 0⟩] scope pos) spos) (tAsg (tDc wi g tt tk tv (own.map (·.2))) (L2.gName i)) := by
  refine ⟨fun pins s σ H D I q0 => ?_⟩
  rw [exec_Assign_Name_used _ _ _ _ sw]
  refine wpAny_bind (wpAny_standAt (wpAny_bind ?_))
  show wpAny _ X.A (do let _ ← comprehension (.DictComp kx vx [⟨tg, iter, ifs, 0⟩] scope pos) scope X.env (firstIterPos [⟨tg, iter, ifs, 0⟩] pos) newDict false (eval iter X.env) (some (assign (.Name y py) X.env))) _ _ s
  have q0 : tDc wi g tt tk tv (own.map (·.2)) σ H (fun x H1 => L2.gName i x σ H1 D.nx) := q0
  refine wpAny_bind (thn (dc_core (Qf := fun _ s' => SP X pins D .next s') hc nd I hi ok hg ht hk hv hs q0 fun L C s' m H' I' q hn f => ?_) fun _ s' hq => wpAny_pure (wpAny_pure hq))
  show wpAny _ _ (assign (.Name y py) X.env (.ref L)) _ _ _
  refine wpAny_assign_Name (store_ok2 (v := V.ref L) I' nd hy (.inl hyl) rfl (fun s2 I2 ⟨a, sb, ha⟩ => ?_) (.inr hyl))
  obtain ⟨f0, f1, f2, f3, f4, f5⟩ := f
  have ne : C ≠ a := ha.elim (fun z => by rw [z]; exact f1) fun z e => f4 y a z e.symm
  exact ⟨m, hn.sameBut sb ne, fun h3 sb3 => ⟨_, H', I2.turned (t' := s2.toks) (fun b o hb e => (sb3.2 b hb).trans e) f0 f1 f3 f4 f5, q⟩⟩
section
variable {G : Cf} {tg : Expr} {pos : Pos}
end
theorem sw_trueD {kx vx : Expr} {gs : List Comprehension} {scope : Scope} {pos py : Pos} {y : Str} {l : Nat} {env : Env} (hk : env.scope.kind = .function) (hy : env.scope.names.lookup y = some .local) (hl : (py.line == pos.line) = true)
    (ha : (scope.names.any fun (n, k) => n == y && (k == .local || k == .cell)) = false) : swapsWith (.DictComp kx vx gs scope pos) (some (.Name y py)) l env = pure true := by
  have ky : env.kindOf y = some .local := hy
  have hb : env.blockKind = .function := by unfold Env.blockKind; rw [hk]; rfl
  unfold swapsWith
  simp only [hb, ky, ha, Expr.pos, hl]
  rfl
end Dt

set_option Elab.async false
set_option linter.all false
set_option maxRecDepth 100000
set_option maxHeartbeats 4000000
/-! DatZ7: list(range(a, b)) -/
namespace Dt
open PySem PySem.Spec PyProof.Rows L2 My He SX
section
variable {G : Cf} {e f : Expr} {te tf : RE} {pos p p2 pos2 : Pos}
end
end Dt

set_option Elab.async false
set_option linter.all false
set_option maxRecDepth 100000
set_option maxHeartbeats 4000000
/-! DatZ8: repr of trees of tuples in which {} may stand -/
namespace Dt
open PySem PySem.Spec PyProof.Rows L2 My He SX
mutual
/-- the data of a tree without lists -/
def pdR : D → Option PyData
  | .non => some .none
  | .bl b => some (.bool b)
  | .int i => some (.int i)
  | .str x => some (.str x)
  | .tup xs => (pdRs xs).map .tuple
  | .dct [] => some (.dict [])
  | _ => none
def pdRs : List D → Option (List PyData)
  | [] => some []
  | x :: xs => match pdR x, pdRs xs with
    | some d, some ds => some (d :: ds)
    | _, _ => none
end
section
variable {X : Cx} {pins : List (Addr × Obj)} {σ : L2.St} {H : Hp} {s : Shared} {W : Wd}
mutual
theorem pdR_reads (I : Inv X pins σ H s) (f : ∀ a o, W.F a = some o → H a = some o) : ∀ {d : D} {v : V} {u : Value} {p : PyData}, Rep X.K W d v → RelV v u → pdR d = some p → ∃ as, Reads s.heap u p as ∧ sysModules ∉ as
  | _, _, _, _, .non, r, e => by
    cases e
    cases r
    exact ⟨_, .none, fun m => nomatch m⟩
  | _, _, _, _, .bl b, r, e => by
    cases e
    cases r
    exact ⟨_, .bool b, fun m => nomatch m⟩
  | _, _, _, _, .int i, r, e => by
    cases e
    obtain ⟨t, rfl⟩ := r
    exact ⟨_, .int i t, fun m => nomatch m⟩
  | _, _, _, _, .str x, r, e => by
    cases e
    obtain ⟨t, rfl⟩ := r
    exact ⟨_, .str x t, fun m => nomatch m⟩
  | _, _, _, _, .tup h q, r, e => by
    unfold pdR at e
    cases z : pdRs _ with
    | none =>
      rw [z] at e
      cases e
    | some ds =>
      rw [z] at e
      cases e
      cases r
      obtain ⟨its, rv, ⟨o, ho, hc, n, hd⟩, _⟩ := I.tuple (sqT_le f h)
      obtain ⟨as, hr, hn⟩ := pdRs_reads I f q rv z
      exact ⟨_, .tuple ho hc hd hr, hn⟩
  | _, _, _, _, .dct h q, r, e => by
    rename_i xs vs a
    cases xs with
    | cons k xs =>
      unfold pdR at e
      cases e
    | nil =>
      unfold pdR at e
      cases e
      cases q
      cases r
      obtain ⟨R, n⟩ := dict_reads I (ps := []) (f _ _ h)
      exact ⟨_, R, fun m => n (List.mem_singleton.mp m).symm⟩
  | _, _, _, _, .lst h q, r, e => by
    unfold pdR at e
    cases e
  | _, _, _, _, .lsk h q, r, e => by
    unfold pdR at e
    cases e
  | _, _, _, _, .ins h q, r, e => by
    unfold pdR at e
    cases e
  | _, _, _, _, .ty n, r, e => by
    unfold pdR at e
    cases e
  | _, _, _, _, .cls n, r, e => by
    unfold pdR at e
    cases e
  | _, _, _, _, .fn n, r, e => by
    unfold pdR at e
    cases e
  | _, _, _, _, .ptr h, r, e => by
    unfold pdR at e
    cases e
  | _, _, _, _, .adr h, r, e => by
    unfold pdR at e
    cases e
theorem pdRs_reads (I : Inv X pins σ H s) (f : ∀ a o, W.F a = some o → H a = some o) : ∀ {ds : List D} {vs : List V} {us : List Value} {ps : List PyData}, Reps X.K W ds vs → Vals vs us → pdRs ds = some ps → ∃ as, ReadsAll s.heap us ps as ∧ sysModules ∉ as
  | _, _, _, _, .nil, r, e => by
    cases e
    cases r
    exact ⟨_, .nil, fun m => nomatch m⟩
  | _, _, _, _, .cons (d := d) (ds := ds) h t, r, e => by
    unfold pdRs at e
    cases q : pdR d with
    | none =>
      rw [q] at e
      cases e
    | some p =>
      cases q2 : pdRs ds with
      | none =>
        rw [q, q2] at e
        cases e
      | some ps =>
        rw [q, q2] at e
        cases e
        cases r with
        | cons r1 r2 =>
          obtain ⟨as, h1, n1⟩ := pdR_reads I f h r1 q
          obtain ⟨bs, h2, n2⟩ := pdRs_reads I f t r2 q2
          exact ⟨_, .cons h1 h2, fun m => (List.mem_append.mp m).elim n1 n2⟩
end
end
structure Gp (p : PyData) (w e : Nat) : Prop where
  sh : p.showable = true
  dp : p.depth ≤ e
  lv : p.leavesShort 13 = true
  wt : p.weight ≤ w
structure Gps (ps : List PyData) (w e : Nat) : Prop where
  sh : PyData.showableAll ps = true
  dp : PyData.depthAll ps ≤ e
  lv : PyData.leavesShortAll 13 ps = true
  wt : PyData.weightAll ps ≤ w
/-- a tree without lists and with a short text -/
def Gd (d : D) (w e : Nat) : Prop := ∃ p, pdR d = some p ∧ Gp p w e
def Gds (ds : List D) (w e : Nat) : Prop := ∃ ps, pdRs ds = some ps ∧ Gps ps w e
theorem Gd.of {d : D} {w e : Nat} (h : Fd d w e) (f : pdR d = pd d) : Gd d w e := let ⟨p, k, g⟩ := h; ⟨p, f.trans k, g.sh, g.dp, g.lv, g.wt⟩
theorem Gd.non : Gd .non 0 0 := .of .non rfl
theorem Gd.bl (b : Bool) : Gd (.bl b) 0 0 := .of (.bl b) rfl
theorem Gd.int {i : Int} (h1 : -1000000000 < i) (h2 : i < 1000000000) : Gd (.int i) 31 0 := .of (.int h1 h2) rfl
theorem Gd.str {l : List Nat} (h : ∀ c ∈ l, c < 128) : Gd (.str (S l)) l.length 0 := .of (.str h) rfl
theorem Gd.dct : Gd (.dct []) 0 1 := ⟨_, rfl, rfl, by decide, rfl, Nat.le_refl _⟩
theorem Gds.nil : Gds [] 0 0 := ⟨[], rfl, rfl, Nat.le_refl _, rfl, Nat.le_refl _⟩
theorem Gds.cons {d : D} {ds : List D} {w1 w2 e1 e2 : Nat} (h : Gd d w1 e1) (t : Gds ds w2 e2) : Gds (d :: ds) (w1 + 1 + w2) (max e1 e2) := by
  obtain ⟨p, e, f⟩ := h
  obtain ⟨ps, es, g⟩ := t
  refine ⟨p :: ps, ?_, ?_, ?_, ?_, ?_⟩
  · show (match pdR d, pdRs ds with | some d, some ds => some (d :: ds) | _, _ => none) = _
    rw [e, es]
  · rw [PyData.showableAll, f.sh, g.sh] <;> rfl
  · rw [PyData.depthAll]
    have := f.dp
    have := g.dp
    omega
  · rw [PyData.leavesShortAll, f.lv, g.lv] <;> rfl
  · rw [PyData.weightAll]
    have := f.wt
    have := g.wt
    omega
theorem Gd.mono {d : D} {w e w' e' : Nat} (h : Gd d w e) (h1 : w ≤ w') (h2 : e ≤ e') : Gd d w' e' := let ⟨p, k, f⟩ := h; ⟨p, k, f.sh, Nat.le_trans f.dp h2, f.lv, Nat.le_trans f.wt h1⟩
theorem Gds.mono {d : List D} {w e w' e' : Nat} (h : Gds d w e) (h1 : w ≤ w') (h2 : e ≤ e') : Gds d w' e' := let ⟨p, k, f⟩ := h; ⟨p, k, f.sh, Nat.le_trans f.dp h2, f.lv, Nat.le_trans f.wt h1⟩
theorem Gd.tup {ds : List D} {w e : Nat} (h : Gds ds w e) : Gd (.tup ds) w (e + 1) := by
  obtain ⟨ps, k, f⟩ := h
  refine ⟨.tuple ps, ?_, ?_, ?_, ?_, ?_⟩
  · show (pdRs ds).map PyData.tuple = _
    rw [k] <;> rfl
  · rw [PyData.showable]; exact f.sh
  · rw [PyData.depth]; exact Nat.succ_le_succ f.dp
  · rw [PyData.leavesShort]; exact f.lv
  · rw [PyData.weight]; exact f.wt
/-- a tree whose repr may be asked -/
def Yd (d : D) : Prop := (∃ p, pd d = some p ∧ p.hasDict = false ∧ p.showable = true ∧ p.depth ≤ 50 ∧ p.shown.length ≤ sizeLine) ∨ ∃ p, pdR d = some p ∧ p.showable = true ∧ p.depth ≤ 50 ∧ p.shown.length ≤ sizeLine
theorem Fd.y {d : D} {w e : Nat} (h : Fd d w e) (hw : w ≤ 1048576 := by decide) (he : e ≤ 50 := by decide) : Yd d := let ⟨p, e1, f⟩ := h
  .inl ⟨p, e1, f.nd, f.sh, Nat.le_trans f.dp he, PyData.shown_fits (B := 13) (by decide) (by decide) f.lv (Nat.le_trans f.wt (Nat.le_trans hw (Nat.le_of_ble_eq_true rfl)))⟩
theorem Gd.y {d : D} {w e : Nat} (h : Gd d w e) (hw : w ≤ 1048576 := by decide) (he : e ≤ 50 := by decide) : Yd d := let ⟨p, e1, f⟩ := h
  .inr ⟨p, e1, f.sh, Nat.le_trans f.dp he, PyData.shown_fits (B := 13) (by decide) (by decide) f.lv (Nat.le_trans f.wt (Nat.le_trans hw (Nat.le_of_ble_eq_true rfl)))⟩
theorem Yd.p {d : D} {p : PyData} (e : pd d = some p) (h : (p.hasDict == false && (p.showable && (decide (p.depth ≤ 50) && decide (p.shown.length ≤ 1000)))) = true) : Yd d := by
  rw [Bool.and_eq_true, Bool.and_eq_true, Bool.and_eq_true] at h
  exact .inl ⟨p, e, beq_iff_eq.mp h.1, h.2.1, of_decide_eq_true h.2.2.1, Nat.le_trans (of_decide_eq_true h.2.2.2) (by rw [sizeLine_eq]; decide)⟩
/-- what repr gives -/
@[irreducible] def shY (d : D) : Str := match pd d with
  | some p => p.shown
  | none => match pdR d with
    | some p => p.shown
    | none => Str.empty
mutual
/-- where both read a tree, they read the same -/
theorem pdR_pd : ∀ {d : D} {p q : PyData}, pd d = some p → pdR d = some q → q = p
  | .non, p, q, h1, h2 => by cases h1; cases h2; rfl
  | .bl _, p, q, h1, h2 => by cases h1; cases h2; rfl
  | .int _, p, q, h1, h2 => by cases h1; cases h2; rfl
  | .str _, p, q, h1, h2 => by cases h1; cases h2; rfl
  | .tup xs, p, q, h1, h2 => by
    unfold pd at h1
    unfold pdR at h2
    cases e1 : pds xs with
    | none => rw [e1] at h1; cases h1
    | some ps =>
      cases e2 : pdRs xs with
      | none => rw [e2] at h2; cases h2
      | some qs =>
        rw [e1] at h1
        rw [e2] at h2
        cases h1
        cases h2
        rw [pdRs_pds e1 e2]
  | .lst xs, p, q, h1, h2 => by unfold pdR at h2; cases h2
  | .dct [], p, q, h1, h2 => by unfold pd at h1; cases h1
  | .dct (_ :: _), p, q, h1, h2 => by unfold pd at h1; cases h1
  | .ty _, p, q, h1, h2 => by unfold pd at h1; cases h1
  | .lsk _, p, q, h1, h2 => by unfold pd at h1; cases h1
  | .ins _ _, p, q, h1, h2 => by unfold pd at h1; cases h1
  | .cls _, p, q, h1, h2 => by unfold pd at h1; cases h1
  | .fn _, p, q, h1, h2 => by unfold pd at h1; cases h1
  | .ptr _, p, q, h1, h2 => by unfold pd at h1; cases h1
  | .adr _, p, q, h1, h2 => by unfold pd at h1; cases h1
theorem pdRs_pds : ∀ {ds : List D} {ps qs : List PyData}, pds ds = some ps → pdRs ds = some qs → qs = ps
  | [], ps, qs, h1, h2 => by cases h1; cases h2; rfl
  | d :: ds, ps, qs, h1, h2 => by
    unfold pds at h1
    unfold pdRs at h2
    cases e1 : pd d with
    | none => rw [e1] at h1; cases h1
    | some p =>
      cases e2 : pds ds with
      | none => rw [e1, e2] at h1; cases h1
      | some ps' =>
        cases e3 : pdR d with
        | none => rw [e3] at h2; cases h2
        | some q =>
          cases e4 : pdRs ds with
          | none => rw [e3, e4] at h2; cases h2
          | some qs' =>
            rw [e1, e2] at h1
            rw [e3, e4] at h2
            cases h1
            cases h2
            rw [pdR_pd e1 e3, pdRs_pds e2 e4]
end
section
variable {B : Bs} {k : Nat} {S0 : Sto} {Ex : XS} {Q : QO}
theorem call_reprR {X : Cx} {pins : List (Addr × Obj)} {σ : L2.St} {H : Hp} {s : Shared} {Q : VK} {W : Wd} {d : D} {v : V} {u : Value} {p : PyData} (hg : X.A.guards = some []) (hu : X.A.units + 64 < cLine) (I : Inv X pins σ H s) (f : ∀ a o, W.F a = some o → H a = some o) (r : Rep X.K W d v) (rv : RelV v u) (e : pdR d = some p) (h1 : p.showable = true) (h3 : p.depth ≤ 50) (h4 : p.shown.length ≤ sizeLine) (q : Q (.str p.shown) H) :
    wpAny (model X.prog X.w) X.A (call (.builtin "repr") [u]) (EP X pins σ Q) X.xe s := by
  obtain ⟨as, R, hn⟩ := pdR_reads I f r rv e
  have fin : ∀ {a : Addr}, u = .ref a → wpAny (model X.prog X.w) X.A (call (.builtin "repr") [u]) (EP X pins σ Q) X.xe s := fun {a} eu => by
    subst eu
    refine repr_of_reads' R h1 (fun _ => hn) hg (by omega) (fun _ _ z => z) (fun h' u tk hk => ?_) h4
    exact ⟨.str p.shown, H, I.kept (t' := tk) hk, ⟨u, rfl⟩, q⟩
  cases R with
  | none => exact PySem.P.repr_of_none ⟨.str _, H, I.tok _, ⟨_, rfl⟩, q⟩
  | bool b => exact PySem.P.repr_of_bool ⟨.str _, H, I.tok _, ⟨_, rfl⟩, q⟩
  | int i t => exact PySem.P.repr_of_int (of_decide_eq_true h1) ⟨.str _, H, I.tok _, ⟨_, rfl⟩, q⟩
  | str x t => exact PySem.P.repr_of_str ⟨.str _, H, I.tok _, ⟨_, rfl⟩, q⟩ h4
  | list => exact fin rfl
  | tuple => exact fin rfl
  | dict => exact fin rfl
theorem c_reprY {d : D} (h : Yd d) (q : Q (.v (.str (shY d))) S0) (hgn : B.gn = false := by rfl) : sCall B k (.builtin "repr") [] [.v d] [] S0 Ex Q := by
  rcases h with ⟨p, e1, h0, h1, h2, h3⟩ | ⟨p, e1, h1, h2, h3⟩
  · have e2 : shY d = p.shown := by
      unfold shY
      rw [e1]
    rw [e2] at q
    exact c_repr (p := p) (pdV e1) h0 h1 h2 h3 q hgn
  · have e2 : shY d = p.shown := by
      unfold shY
      cases z : pd d with
      | none =>
        dsimp only
        rw [e1]
      | some p' => exact (congrArg PyData.shown (pdR_pd z e1)).symm
    rw [e2] at q
    intro X en W σ H ft tk ho xs' zs' rx rz pins s us ws I rv rw'
    cases rx with
    | cons r t =>
      cases t
      cases rz
      cases rw'
      obtain ⟨u, rfl, r1⟩ := vals1 rv
      have r2 := (show RepO B.K en W H (.v d) _ from r)
      replace r2 := (show Rep B.K W d _ from r2)
      rw [← ft.K] at r2
      exact call_reprR (ft.gd hgn) (by have := ft.units; omega) I ho.fh r2 r1 e1 h1 h2 h3 (nx ho (.str _) q)
end
end Dt

set_option Elab.async false
set_option linter.all false
set_option maxRecDepth 100000
set_option maxHeartbeats 4000000
/-! DatZ9: o[a:c] = list -/
namespace Dt
open PySem PySem.Spec PyProof.Rows L2 My He SX
section
variable {G : Cf} {X : Cx} {en : En} {W W1 : Wd} {σ : L2.St} {H H1 : Hp} {ρ : List Sl} {S S1 : Sto} {pins : List (Addr × Obj)} {s s1 : Shared} {e a : Expr} {lo hi : Option Expr} {ta tv : RE} {tl th : RO} {pos pos' p2 : Pos}
end
end Dt

set_option Elab.async false
set_option linter.all false
set_option maxRecDepth 100000
set_option maxHeartbeats 4000000
/-! DatZA: x(lambda: body) on trees -/
namespace Dt
open PySem PySem.Spec PyProof.Rows L2 My He SX LamX
section
variable {X : Cx} {pins : List (Addr × Obj)} {σ : L2.St} {H : Hp} {s : Shared}
/-- what stands where a lambda was made -/
structure Made (X : Cx) (pins : List (Addr × Obj)) (σ : L2.St) (H : Hp) (P : Addr) (q : Str) (params : Arguments) (body : Expr) (scope : Scope) (ps : Array Value) (f c' : Addr) (pm ctv : Value) (H1 : Hp) (s' : Shared) (qs : Array Value) : Prop where
  I : Inv X pins σ H1 s'
  how : (H1 = H ∧ qs = ps ∧ ∃ pos : Pos, codeAmong pos ps.toList = some (.ref c')) ∨ (H c' = none ∧ H1 = upd (upd H P (.tbl qs)) c' (CodeO c' q))
  ok : TriplesOk qs.toList
  src : ∀ (pos : Pos) (cv : Value), codeAmong pos qs.toList = some cv → codeAmong pos ps.toList = some cv ∨ cv = .ref c'
  obj : s'.heap.get? f = some (PySem.W.kla_obj "<lambda>" q params body scope (cloFrom X.env.cells scope.names []) pm c' ctv)
  off : H1 f = none
  fr : f ∉ frs X.stack
  co : H1 c' = some (CodeO c' q)
theorem lam_made {c P : Addr} {q : Str} {ps : Array Value} {params : Arguments} {body : Expr} {scope : Scope} {pos : Pos} {E Q : Value → Shared → Prop} (I : Inv X pins σ H s) (TB : TabB X.base X.mg c P) (hcode : X.env.code = .ref c) (hq : X.env.qual ++ "<lambda>" = q) (tP : H P = some (.tbl ps)) (tOk : TriplesOk ps.toList)
    (tAll : ∀ (pos : Pos) (cv : Value), codeAmong pos ps.toList = some cv → ∃ c, cv = .ref c ∧ H c = some (CodeO c q)) (df : defaultsOf params X.env = ([], [])) (fv : ∀ y ∈ scope.names, y.2 = .free → ∃ c, X.env.cells.lookup y.1 = some c)
    (h : ∀ (f c' : Addr) (pm ctv : Value) (H1 : Hp) (s' : Shared) (qs : Array Value), Made X pins σ H P q params body scope ps f c' pm ctv H1 s' qs → Q (.ref f) s') : wpAny (model X.prog X.w) X.A (eval (.Lambda params body scope pos) X.env) Q E s := by
  subst hq
  have hb : s.heap.BuiltinsAt X.mg P := TB.bm.keeps I.bk
  have hO : s.heap.get? P = some { cls := .none, data := .fields ps } := I.hok P _ tP
  have out : ∀ b, s.heap.objs.size ≤ b → b ∉ frs X.stack := fun b hl m => by
    rcases List.mem_cons.mp (I.stkSub _ m) with z | z
    · have lt := I.lt
      rw [← z] at lt
      exact Nat.lt_irrefl _ (Nat.lt_of_le_of_lt hl lt)
    · exact I.nofs hl z
  refine PySem.W.kla_eval df ?_
  cases found : codeAmong pos ps.toList with
  | some cv =>
    obtain ⟨c', rfl, hco⟩ := tAll pos cv found
    refine PySem.W.kla_makeFunctionHit (mg := X.mg) (c := c) (P := P) (ps := ps) (closure_ok fv) I.ok.glob (I.mod.glob.keeps I.bk) hcode (TB.code.keeps I.bk) hO tOk found hb fun ctv h' tk kk sz => ?_
    refine h _ c' _ ctv H _ ps ⟨I.kept fun b o e => Heap.get?_push_of_some _ (kk b o e), .inl ⟨rfl, rfl, _, found⟩, tOk, fun _ _ z => .inl z, Heap.get?_push_size _ rfl, I.hok.fresh sz, out _ sz, hco⟩
  | none =>
    refine PySem.W.kla_makeFunction (mg := X.mg) (c := c) (P := P) (ps := ps) (closure_ok fv) I.ok.glob (I.mod.glob.keeps I.bk) hcode (TB.code.keeps I.bk) hO tOk found TB.gP hb fun c' ctv h' tk kk ge lt rec_ tb => ?_
    obtain ⟨c2, oc, vs, t, e2, ho, hd, hv⟩ := rec_
    cases e2
    have nC : H c' = none := I.hok.fresh ge
    have sz : s.heap.objs.size ≤ h'.objs.size := Nat.le_trans ge (Nat.le_of_lt lt)
    have J := inv_table (t' := tk) (more := #[rawInt pos.line, rawInt pos.col, .ref c']) (h' := h'.push (PySem.W.kla_obj "<lambda>" (X.env.qual ++ "<lambda>") params body scope (cloFrom X.env.cells scope.names []) ((X.mg "__name__").getD .none) c' ctv)) I tP
      (fun b o nb e => Heap.get?_push_of_some _ (kk b o nb e)) (Heap.get?_push_of_some _ tb) ge ⟨oc, vs, t, Heap.get?_push_of_some _ ho, hd, hv⟩
    have eL : (ps ++ #[rawInt pos.line, rawInt pos.col, .ref c']).toList = ps.toList ++ [rawInt pos.line, rawInt pos.col, .ref c'] := by simp
    refine h h'.objs.size c' ((X.mg "__name__").getD .none) ctv _ _ _ ⟨J, .inr ⟨nC, rfl⟩, by rw [eL]; exact PySem.TriplesOk_snoc _ _ _ _ tOk, fun p' cv hcv => ?_, Heap.get?_push_size _ rfl, ?_, out _ sz, upd_same⟩
    · rw [eL] at hcv
      exact among_app _ tOk hcv
    · rw [upd_ne (Nat.ne_of_gt lt), upd_ne (Nat.ne_of_gt (Nat.lt_of_lt_of_le (Heap.lt_size hO) sz))]
      exact I.hok.fresh sz
end
/-- the world behind it -/
theorem Made.world {K : PySem.W.Frag} {X : Cx} {pins : List (Addr × Obj)} {σ : L2.St} {H : Hp} {P : Addr} {q : Str} {params : Arguments} {body : Expr} {scope : Scope} {ps : Array Value} {f c' : Addr} {pm ctv : Value} {H1 : Hp} {s' : Shared} {qs : Array Value} {W : Wd} {S : Sto} {n : Nat}
    (m : Made X pins σ H P q params body scope ps f c' pm ctv H1 s' qs) (ho : Ho K W H S) (en : S[n]? = some (.tbl P q)) (tc : ∀ (pos : Pos) (cv : Value), codeAmong pos ps.toList = some cv → ∃ c, cv = .ref c ∧ W.F c = some (CodeO c q)) : ∃ W1, Ho K W1 H1 S ∧ Go W H W1 H1 ∧ W1.F c' = some (CodeO c' q) := by
  rcases m.how with ⟨e1, _, p0, e0⟩ | ⟨nC, e1⟩
  · subst e1
    obtain ⟨c0, e2, e3⟩ := tc p0 _ e0
    cases e2
    exact ⟨W, ho, .refl, e3⟩
  · have hn := cell_lt ho en
    obtain ⟨eP, ps0, hP, _⟩ := ho.cel _ _ en
    have nPc : W.m n ≠ c' := ne_of_none hP nC
    have comm : upd (upd H P (.tbl qs)) c' (CodeO c' q) = upd (upd H c' (CodeO c' q)) (W.m n) (.tbl qs) := by
      funext b
      rw [← eP]
      by_cases h1 : b = c'
      · subst h1
        rw [upd_same, upd_ne (Ne.symm nPc), upd_same]
      · by_cases h2 : b = W.m n
        · subst h2
          rw [upd_ne h1, upd_same, upd_same]
        · rw [upd_ne h1, upd_ne h2, upd_ne h2, upd_ne h1]
    have ho1 : Ho K (W.frz c' (CodeO c' q)) (upd H c' (CodeO c' q)) S := ho.frz nC
    have same : S.set n (.tbl P q) = S := by
      refine List.ext_getElem? fun j => ?_
      by_cases z : j = n
      · subst z
        rw [List.getElem?_set_self (List.getElem?_eq_some_iff.mp en).1, en]
      · rw [List.getElem?_set_ne (Ne.symm z)]
    have ho2 := ho1.put (o := .tbl qs) (c := .tbl P q) hn ⟨eP, qs, upd_same, m.ok, fun pos cv z => ?_⟩
    · rw [same] at ho2
      have e2 : (W.frz c' (CodeO c' q)).m n = W.m n := rfl
      rw [e2, ← comm, ← e1] at ho2
      refine ⟨_, ho2, ?_, upd_same⟩
      have g := (Go.frz (o := CodeO c' q) ho nC).trans (K := K) (Go.put (W := W.frz c' (CodeO c' q)) (H := upd H c' (CodeO c' q)) (o := .tbl qs) hn) (by rw [e2, ← comm, ← e1]; exact ho2)
      rw [e2, ← comm, ← e1] at g
      exact g
    · rcases m.src pos cv z with y | rfl
      · obtain ⟨c0, e3, e4⟩ := tc pos cv y
        refine ⟨c0, e3, ?_⟩
        show upd W.F c' (CodeO c' q) c0 = _
        by_cases h1 : c0 = c'
        · rw [h1, upd_same]
        · rw [upd_ne h1]
          exact e4
      · exact ⟨c', rfl, upd_same⟩
end Dt

set_option Elab.async false
set_option linter.all false
set_option maxRecDepth 100000
set_option maxHeartbeats 4000000
/-! DatZB: the def that is handed a lambda; the lambda called -/
namespace Dt
open PySem PySem.Spec PyProof.Rows L2 My He SX LamX
/-- a lambda as the def sees it: its address, what a call of it gives -/
structure Act (B : Bs) (k : Nat) where
  f : Addr
  t : Sto → XS → QO → Prop
  axm : Axm
  run : ∀ {X : Cx} {en : En} {W : Wd} {σ : L2.St} {H : Hp} {S : Sto} {Ex : XS} {Q : QO} {pins : List (Addr × Obj)} {s : Shared} (p : Pos), axm.ax X en → FitsB B (k + 1) X en → Takes X (XN B.K W H σ Ex) → Ho B.K W H S → Go en.W en.H W H → Inv X pins σ H s → t S Ex Q →
    wpAny (model X.prog X.w) X.A (callWith p (.ref f) [] [] []) (EP X pins σ (Nx B.K en W H Q)) X.xe s
section
variable {B : Bs} {k i : Nat} {Ng : List Str} {sg : Scope} {a : Str} {p1 p2 : Pos}
abbrev dAct (A : Act B k) (i : Nat) : RE := fun ρ S E Q => ρ[i]? = some (.sh (.adr A.f)) ∧ A.t S (E ρ) Q
theorem de_act (A : Act B k) (hi : Ng[i]? = some a) (hv : Vis sg a) (hd : (a == ("__debug__" : Str)) = false := by decide) (hcd : (a == ("__classdict__" : Str)) = false := by decide) : DE (fnCfA B (k + 1) Ng sg A.axm) (.Call (.Name a p1) [] [] p2) (dAct A i) := by
  refine ⟨fun {X en W σ H ρ S E pins s Q} z ⟨e1, q⟩ => ?_⟩
  have P0 : PE X (.Name a p1) (tVar i) := z.name hi hv hd hcd
  obtain ⟨v0, e2, r0⟩ := z.rs.sl i _ e1
  cases r0
  refine wpAny_Call_Name_kw (thn (P0.run pins s σ H (fun v' H' => v' = .ref A.f ∧ H' = H) z.I ⟨_, e2, rfl, rfl⟩) fun u s1 ⟨v', H1, I1, rx, ev, eh⟩ => ?_)
  subst ev eh
  obtain rfl : u = Value.ref A.f := rx
  exact A.run p2 z.hf.ax z.hf.b z.xn z.rs.ho z.rs.go I1 q
end
/-- the lambda's own settings -/
abbrev lamCf (B : Bs) (k : Nat) (N : List Str) (scope : Scope) : Cf := ⟨B, k, N, scope, false, fun _ => false, false, fun _ _ => True, fun _ _ _ _ _ => trivial⟩
/-- of the frame's slots, the values -/
def onlyV : Sl → Sl
  | .sh d => .sh d
  | _ => .un
theorem rs_only {K : PySem.W.Frag} {en : En} {W W' : Wd} {σ : L2.St} {H H' : Hp} {ρ : List Sl} {S S' : Sto} (r : Rs K en W σ H ρ S) (ho : Ho K W' H' S') (g : Go W H W' H') : Rs K ⟨W', H', 0, none⟩ W' σ H' (ρ.map onlyV) S' := by
  refine ⟨ho, .refl, by rw [List.length_map]; exact r.len, fun i s e => ?_, fun i j s t a _ e o _ _ _ _ => ?_⟩
  · rw [List.getElem?_map] at e
    obtain ⟨u, e1, rfl⟩ := Option.map_eq_some_iff.mp e
    cases u with
    | sh d => exact let ⟨v, e2, rd⟩ := r.sl i _ e1; ⟨v, e2, rd.le g.le⟩
    | _ => trivial
  · rw [List.getElem?_map] at e
    obtain ⟨u, e1, rfl⟩ := Option.map_eq_some_iff.mp e
    cases u <;> cases o
/-- what a lambda's body does -/
abbrev lamT (te : RE) (ρ : List Sl) : Sto → XS → QO → Prop := fun S Ex Q => te (ρ.map onlyV) S (fun _ => Ex) fun o S' => ∃ d, o = .v d ∧ Q (.v d) S'
section
variable {G : Cf} {X : Cx} {en : En} {W W1 : Wd} {σ : L2.St} {H H1 : Hp} {ρ : List Sl} {S S1 : Sto} {E : XD} {pins : List (Addr × Obj)} {s s1 : Shared} {k : Nat} {params : Arguments} {body : Expr} {scope : Scope} {te : RE} {q : Str} {f c' : Addr} {pm ctv : Value}
/-- the made lambda as an act -/
theorem act_run {Ng : List Str} {qg : Str} {sg : Scope} {g : Addr} {cdg : Value} {Eg : XK} (hc : G.B.hot = false) (z : At G X en W σ H ρ S E pins s) (L : LamS X.env.scope scope)
    (hf : s.heap.get? f = some (PySem.W.kla_obj "<lambda>" (X.env.qual ++ "<lambda>") params body scope (cloFrom X.env.cells scope.names []) pm c' ctv)) (off : H f = none) (fr : f ∉ frs X.stack) (co : H c' = some (CodeO c' (X.env.qual ++ "<lambda>")))
    (kp : ∀ {W' : Wd} {H' : Hp} {S' : Sto}, Ho G.B.K W' H' S' → Go W H W' H' → H' c' = some (CodeO c' (X.env.qual ++ "<lambda>")))
    (bd : bindArgs (PySem.W.kla_fn "<lambda>" (X.env.qual ++ "<lambda>") params body scope (cloFrom X.env.cells scope.names []) pm (.ref c') ctv) ⟨[], []⟩ = pure [])
    (hbody : DE (lamCf G.B k G.N scope) body te) {Y : Cx} {en' : En} {W' : Wd} {τ : L2.St} {H' : Hp} {S' : Sto} {Ex : XS} {Q : QO} {pins' : List (Addr × Obj)} {s' : Shared} {pn : List (Addr × Obj)} {xe : Value → Shared → Prop} (p : Pos)
    (eY : Y = (cxOf (L2.CX X.prog X.w) X.prog X.w X.K X.mg X.base Ng qg sg g cdg X.A X.stack s H Eg).tr pn xe) (eW : en'.W = W) (eH : en'.H = H) (ft : FitsB G.B (k + 1) Y en') (tk : Takes Y (XN G.B.K W' H' τ Ex)) (ho : Ho G.B.K W' H' S') (go : Go en'.W en'.H W' H') (I' : Inv Y pins' τ H' s') (q : lamT te ρ S' Ex Q) :
    wpAny (model Y.prog Y.w) Y.A (callWith p (.ref f) [] [] []) (EP Y pins' τ (Nx G.B.K en' W' H' Q)) Y.xe s' := by
  have rgY := ft.rg hc
  subst eY
  rw [eW, eH] at go
  have un : Un (frs X.stack) [] H H' s.heap s'.heap := I'.base
  have at1 := I'.base.keep f _ hf off fr (fun z => (List.not_mem_nil (show f ∈ ([] : List Addr) from z)).elim)
  have e2 := kp ho go
  obtain ⟨⟨oc, vs, t, h1, h2, h3⟩, _, _⟩ := I'.hok c' _ e2
  have bP : X.prog = G.B.P := z.hf.b.P
  have bw : X.w = G.B.w := z.hf.b.w
  refine PySem.W.callWith_F0 (env := X.env) ⟨_, _, _, _, at1⟩ (wpAny_call (codeAny_mono (R := CR (L2.CX X.prog X.w) (envOfC qg sg s.heap.objs.size g cdg :: X.stack) X.prog X.w H' s' (Nx G.B.K en' W' H' Q) (WE (XN G.B.K W' H' τ Ex) τ)) ?_ fun y s2 hq => ?_))
  · refine PySem.W.kla_callFunE rgY.r.depth at1 rfl L.co L.gen rfl ⟨c', oc, vs, t, rfl, h1, h2, h3⟩ ?_
    refine wpAny_of_eq bd (wpAny_newFunctionEnv (fun y hy => (L.own y hy).2) (fun y hy => (List.not_mem_nil hy).elim) (fun h₁ n1 n2 => ⟨I'.nolimit.fresh _ n2, ?_⟩) L.kind)
    have kp2 : ∀ b o, s'.heap.get? b = some o → h₁.get? b = some o := fun b o e => n2.extBut b o (Nat.ne_of_lt (Heap.lt_size e)) (Heap.get?_push_of_some _ e)
    have J := lam_start2 (f := f) (c' := c') (E := WE (XN G.B.K W' H' τ Ex) τ) (tk := s'.toks + ([] : List (Str × Value)).length) z.I L I'.env0 rgY.r.hd un n1 kp2
    have hr2 : My.RG k ((X.A.deeper (envOfC qg sg s.heap.objs.size g cdg)).deeper (lamEnv X scope s'.heap.objs.size f c')) := rgY.deeper _
    have fl : Fits (lamCf G.B k G.N scope) (lamCx X (X.A.deeper (envOfC qg sg s.heap.objs.size g cdg)) (envOfC qg sg s.heap.objs.size g cdg :: X.stack) s' H' (WE (XN G.B.K W' H' τ Ex) τ) scope f c') ⟨W', H', 0, none⟩ :=
      ⟨⟨bP, bw, z.hf.b.K, z.hf.b.mg, z.hf.b.base, ⟨hr2.r.dp, hr2.r.un⟩, (fun _ => hr2.g), fun _ => ⟨rfl, hr2.r.hd⟩, (fun p e => nomatch e), fun _ => rfl⟩, z.hf.N, rfl, z.hf.nd, fun _ h => Bool.noConfusion h, fun h => Bool.noConfusion h, fun h => Bool.noConfusion h, trivial⟩
    have rs2 := rs_only z.rs ho go
    have tk2 : Takes (lamCx X (X.A.deeper (envOfC qg sg s.heap.objs.size g cdg)) (envOfC qg sg s.heap.objs.size g cdg :: X.stack) s' H' (WE (XN G.B.K W' H' τ Ex) τ) scope f c') (XT G.B.K ⟨W', H', 0, none⟩ W' fun _ => Ex) :=
      (takes_of (E := WE (XN G.B.K W' H' τ Ex) τ) rfl rfl rfl rfl).imp fun cls d σ' H2 ⟨C, fs, W2, ρ2, S2, x, r, l, q⟩ => ⟨rfl, C, fs, W2, S2, x, r.ho, r.go, q⟩
    refine PySem.W.kla_codeExpr (wpAny_mono (hbody.run (Q := fun o S' => ∃ d, o = .v d ∧ Q (.v d) S') ⟨fl, tk2, rs2, J⟩ q) (fun v s3 hq => ?_) fun _ _ z => z)
    obtain ⟨w', H2, J2, rv, W2, o, S2, h2, g2, ro, d, eo, q2⟩ := hq
    subst eo
    exact ⟨w', H2, J2.os, J2.bare, J2.base, J2.hok, rv, W2, .v d, S2, h2, g2, ro, q2⟩
  · match y, hq with
    | .error e, hq => exact passAt tk τ pins' H' s' e s2 I' hq
    | .ok (.ret u), hq => exact I'.after hq
end
end Dt

set_option Elab.async false
set_option linter.all false
set_option maxRecDepth 100000
set_option maxHeartbeats 4000000
/-! DatZC: x(lambda: body), read -/
namespace Dt
open PySem PySem.Spec PyProof.Rows L2 My He SX LamX
section
variable {G : Cf} {k : Nat} {g c P : Addr} {params pg : Arguments} {body : Expr} {scope sg : Scope} {bg : List Stmt} {x a q : Str} {kws : List (Str × V)} {fd : FuncData} {Ng : List Str} {te : RE} {p lpos pos : Pos}
/-- x(lambda: ..): the table of the maker's code stands in the store -/
abbrev dLamc (B : Bs) (k : Nat) (P : Addr) (q : Str) (n : Nat) (te : RE) (tg : Act B k → RS) : RE := fun ρ S E Q => (∃ j : Nat, S[j]? = some (Cell.tbl P q)) ∧ ∀ A : Act B k, A.t = lamT te ρ → tg A ⟨fun _ S' => Q (.v .non) S', fun d _ S' => Q (.v d) S', fun _ _ => False, fun _ _ => False, fun _ => E ρ⟩ (startS n [.adr A.f]) S
theorem de_lamc {tg : Act G.B k → RS} (hk : k + 2 ≤ G.k) (hc : G.B.hot = false) (hg : Glb G x) (hm : G.B.mg x = some (.ref g)) (F : FunD G.B.K x x pg bg sg [] kws g fd) (hb : Binds G.B.K fd [a] []) (Sc : FnScope Ng [a] sg) (TB : TabB G.B.base G.B.mg c P) (hax : ∀ X en, G.ax X en → X.env.code = .ref c ∧ X.env.qual ++ "<lambda>" = q) (hL : LamS G.sc scope)
    (hbody : DE (lamCf G.B k G.N scope) body te) (hd : ∀ A : Act G.B k, DSs (fnCfA G.B (k + 1) Ng sg A.axm) bg (tg A)) (df : ∀ env : Env, defaultsOf params env = ([], []) := by intro _; rfl)
    (bd : ∀ (qq : Str) (cl : List (Str × Addr)) (pm cv ctv : Value), bindArgs (PySem.W.kla_fn "<lambda>" qq params body scope cl pm cv ctv) ⟨[], []⟩ = pure [] := by intros; rfl) (hdb : (x == ("__debug__" : Str)) = false := by decide) :
    DE G (.Call (.Name x p) [.Lambda params body scope lpos] [] pos) (dLamc G.B k P q Ng.length te tg) := by
  refine ⟨fun {X en W σ H ρ S E pins s Q} z ⟨⟨n, ec⟩, h⟩ => ?_⟩
  obtain ⟨eP, ps, hP, tOk, all⟩ := z.rs.ho.cel _ _ ec
  rw [eP] at hP
  obtain ⟨hcode, hq⟩ := hax _ _ z.hf.ax
  have L : LamS X.env.scope scope := by rw [z.hf.sc]; exact hL
  have TB' : TabB X.base X.mg c P := by rw [z.hf.b.base, z.hf.b.mg]; exact TB
  have kp : PySem.W.keepIn X.K (.ref g) = true := by rw [z.hf.b.K]; exact F.kp
  have hr := (z.hf.b.rg hc).mono hk
  obtain ⟨oc, od, dV, kV, doc, pm0, an, cdv, ct, osl, rfl, lk, hcd, hD, _⟩ := F.ex
  refine wpAny_Call_Name_kw (ld_glob z.I (gl_of z.hf.sc hg) (by rw [z.hf.b.mg]; exact hm) (PySem.W.callWith_K (h₀ := X.base) z.I.ok.mod.kin kp ?_ (by rfl) (by rfl)) hdb)
  show wpAny _ _ (spliced ((false, eval (.Lambda params body scope lpos) X.env) :: backTo pos (starEach [] X.env))) _ _ s
  refine Calls.spliced_cons (lam_made z.I TB' hcode hq hP tOk (fun pos cv e => let ⟨c0, e1, e2⟩ := all pos cv e; ⟨c0, e1, z.rs.ho.fh _ _ e2⟩) (df _) (L.has z.I.ok) fun f c' pm ctv H1 s' qs m => Calls.spliced_nil ⟨m.I.kIn, ?_⟩)
  obtain ⟨W1, ho1, g1, fc⟩ := m.world z.rs.ho ec all
  have z1 : At G X en W1 σ H1 ρ S E pins s' := z.next m.I ho1 g1
  subst hq
  have coK : ∀ {W' : Wd} {H' : Hp} {S' : Sto}, Ho G.B.K W' H' S' → Go W1 H1 W' H' → H' c' = some (CodeO c' (X.env.qual ++ "<lambda>")) := fun {W' H' S'} ho' g' => by
    exact ho'.fh _ _ (g'.le.f _ _ fc)
  let A : Act G.B k := ⟨f, lamT te ρ, ⟨fun Y en' => ∃ (cdg : Value) (Eg : XK) (pn : List (Addr × Obj)) (xe : Value → Shared → Prop), Y = (cxOf (L2.CX X.prog X.w) X.prog X.w X.K X.mg X.base Ng x sg g cdg X.A X.stack s' H1 Eg).tr pn xe ∧ en'.W = W1 ∧ en'.H = H1, fun Y en' pn xe ⟨cdg, Eg, _, _, e, e1, e2⟩ => ⟨cdg, Eg, pn, xe, by subst e; rfl, e1, e2⟩⟩,
    fun p ⟨cdg, Eg, pn, xe, e, e1, e2⟩ ft tk ho' go I' q => act_run hc z1 L m.obj m.off m.fr m.co coK (bd _ _ _ _ _) hbody p e e1 e2 ft tk ho' go I' q⟩
  have hq := h A rfl
  obtain ⟨e0, KX⟩ := fits_env z1.hf.b z1.I
  have key : codeAny (model G.B.P G.B.w) X.A (.call (.ref g) ⟨[.ref f], []⟩) (CR (L2.CX G.B.P G.B.w) X.stack G.B.P G.B.w H1 s' (Nx G.B.K en W1 H1 Q) (WE (XN G.B.K W1 H1 σ (E ρ)) σ)) s' := by
    refine run_ofS (CX := L2.CX G.B.P G.B.w) (N := Ng) (ps := [a]) (us := [.ref f]) (vs := [.ref f]) lk hcd Sc hr.r e0 (hb s' [.ref f] KX rfl) (.cons rfl .nil) rfl fun _ => ⟨tBr _ bg, bcan _ bg, fun pins2 s2 I2 => ?_⟩
    have hr2 : My.RG (k + 1) (X.A.deeper (envOfC x sg s'.heap.objs.size g cdv)) := hr.deeper _
    have eY : cxOf (L2.CX G.B.P G.B.w) G.B.P G.B.w G.B.K G.B.mg G.B.base Ng x sg g cdv X.A X.stack s' H1 (WE (XN G.B.K W1 H1 σ (E ρ)) σ) = cxOf (L2.CX X.prog X.w) X.prog X.w X.K X.mg X.base Ng x sg g cdv X.A X.stack s' H1 (WE (XN G.B.K W1 H1 σ (E ρ)) σ) := by
      rw [z.hf.b.P, z.hf.b.w, z.hf.b.K, z.hf.b.mg, z.hf.b.base]
    have ft : Fits (fnCfA G.B (k + 1) Ng sg A.axm) (cxOf (L2.CX G.B.P G.B.w) G.B.P G.B.w G.B.K G.B.mg G.B.base Ng x sg g cdv X.A X.stack s' H1 (WE (XN G.B.K W1 H1 σ (E ρ)) σ)) ⟨W1, H1, 0, none⟩ :=
      ⟨⟨rfl, rfl, rfl, rfl, rfl, ⟨hr2.r.dp, hr2.r.un⟩, (fun _ => hr2.g), fun _ => ⟨rfl, hr2.r.hd⟩, (fun p e => nomatch e), fun _ => rfl⟩, rfl, rfl, Sc.nd, fun _ _ => rfl, fun _ => passes_of rfl, fun _ => ⟨rfl, rfl⟩, ⟨cdv, WE (XN G.B.K W1 H1 σ (E ρ)) σ, _, _, eY, rfl, rfl⟩⟩
    have tk : Takes (cxOf (L2.CX G.B.P G.B.w) G.B.P G.B.w G.B.K G.B.mg G.B.base Ng x sg g cdv X.A X.stack s' H1 (WE (XN G.B.K W1 H1 σ (E ρ)) σ)) (XT G.B.K ⟨W1, H1, 0, none⟩ W1 fun _ => E ρ) :=
      (takes_of (X := cxOf (L2.CX G.B.P G.B.w) G.B.P G.B.w G.B.K G.B.mg G.B.base Ng x sg g cdv X.A X.stack s' H1 (WE (XN G.B.K W1 H1 σ (E ρ)) σ)) (E := WE (XN G.B.K W1 H1 σ (E ρ)) σ) rfl rfl rfl rfl).imp fun cls d σ' H2 ⟨C, fs, W2, ρ2, S2, xr, r, l, q⟩ => ⟨rfl, C, fs, W2, S2, xr, r.ho, r.go, q⟩
    have rs2 : Rs G.B.K ⟨W1, H1, 0, none⟩ W1 (L2.start Ng [.ref f]) H1 (startS Ng.length [.adr f]) S := start_rs ho1 .refl (.cons (.adr f) .nil)
    refine thn ((hd A).run (D := ⟨fun _ S' => Q (.v .non) S', fun d _ S' => Q (.v d) S', fun _ _ => False, fun _ _ => False, fun _ => E ρ⟩) ⟨ft, tk, rs2, I2⟩ hq) fun fl s3 q3 => ?_
    cases fl with
    | next => exact let ⟨σ', H', I', W', ρ', S', r, l, q⟩ := q3; ⟨σ', H', I', W', .v .non, S', r.ho, r.go, .non, q⟩
    | ret v => exact let ⟨v, σ0, H', I', r0, W', σ', ρ', d, S', r, l, rp, q⟩ := q3; ⟨v, σ0, H', I', r0, W', .v d, S', r.ho, r.go, rp, q⟩
    | brk => exact let ⟨σ', H', I', W', ρ', S', r, l, q⟩ := q3; q.elim
    | cont => exact let ⟨σ', H', I', W', ρ', S', r, l, q⟩ := q3; q.elim
  rw [← z.hf.b.P, ← z.hf.b.w] at key
  refine wpAny_call (codeAny_mono key fun y s'' hq' => ?_)
  match y, hq' with
  | .error er, hq' => exact passAt z1.xn σ pins H1 s' er s'' z1.I hq'
  | .ok (.ret u), hq' => exact ep_back g1 (z1.I.after hq')
end
end Dt

set_option Elab.async false
set_option linter.all false
set_option maxRecDepth 100000
set_option maxHeartbeats 4000000
/-! DatZD: defs that make lambdas; the handled error handed to a def -/
namespace Dt
open PySem PySem.Spec PyProof.Rows L2 My He SX LamX
/-- the frame's code object and the name of a lambda in it -/
def axC (c : Addr) (q : Str) : Axm := ⟨fun X _ => X.env.code = .ref c ∧ X.env.qual = q ++ (".<locals>." : Str), fun _ _ _ _ h => h⟩
theorem axC_at {c : Addr} {q : Str} {X : Cx} {en : En} (h : (axC c q).ax X en) : X.env.code = .ref c ∧ X.env.qual ++ "<lambda>" = (q ++ (".<locals>." : Str)) ++ "<lambda>" := by
  obtain ⟨h1, h2⟩ := h
  refine ⟨h1, ?_⟩
  rw [h2]
section
variable {B : Bs} {x qual : Str} {params : Arguments} {body : List Stmt} {scope : Scope} {dvs : List V} {kws : List (Str × V)} {fd : FuncData} {N ps ks : List Str} {ok : List D → List D → Prop} {ar : List D → List D → List D} {t : RS} {S : Sto} {Ex : XS} {Q : QO} {ρ0 : List Sl}
theorem call_dc (k : Nat) (F : FunD B.K x qual params body scope dvs kws (He.ga B.K x) fd) (Sc : FnScope N ps scope) (hot : B.hot = false) (bm : BindM B fd ps 0 ks ok ar) (hd : DSs (fnCfA B k N scope (axC (codeOf B.K (x, none)) qual)) body t) {ds zs : List D} (hok : ok ds zs)
    (e : startS N.length (ar ds zs) = ρ0) (hq : t ⟨fun _ S' => Q (.v .non) S', fun d _ S' => Q (.v d) S', fun _ _ => False, fun _ _ => False, fun _ => Ex⟩ ρ0 S) : sFun B (k + 1) (.ref (He.ga B.K x)) ks ds zs S Ex Q := by
  subst e
  intro A outer s W H en σ vs ws us us' hr e0 KX ho rx rz rv rw'
  refine run_defA F Sc hot bm hd (pre := []) (preU := []) (Q := Nx B.K en W H Q) (E := WE (XN B.K W H σ Ex) σ) rfl hok hr e0 KX ho .nil rx rz rv rw' (fun en' cdv A' o' s' H' E' hcd => ⟨hcd rfl, rfl⟩) fun W2 H2 vs3 h2 g2 r3 kp => ?_
  refine ⟨⟨W, H, 0, none⟩, startS N.length (ar ds zs), fnD Ex Q, rfl, start_rs h2 g2 r3, hq, fun σ' H' W' ρ' S' r l q => ?_, fun v H' W' σ' ρ' d S' r l rp q => ?_, fun _ _ z => z, fun _ _ z => z, fun cls d σ' H' ⟨C, fs, W', ρ', S', xr, r, l, q⟩ => ?_⟩
  · exact ⟨W', .v .non, S', r.ho, r.go, .non, q⟩
  · exact ⟨W', .v d, S', r.ho, r.go, rp, q⟩
  · exact ⟨rfl, C, fs, W', S', xr, r.ho, r.go, q⟩
end
/-- the settings of a def that the handled error is handed to -/
abbrev hotCf (B : Bs) (k : Nat) (N : List Str) (scope : Scope) : Cf := ⟨{ B with hot := true, gen := false }, k, N, scope, false, fun _ => true, false, fun _ _ => True, fun _ _ _ _ _ => trivial⟩
section
variable {G : Cf} {i k : Nat} {g : Addr} {pg : Arguments} {sg : Scope} {bg : List Stmt} {x y a : Str} {kws : List (Str × V)} {fd : FuncData} {Ng : List Str} {t : RS} {p p1 pos : Pos}
/-- x(e), e the handled error -/
abbrev dCallX (i n : Nat) (t : RS) : RE := fun ρ S E Q => ∃ C fs, ρ[i]? = some (.exc C fs) ∧ t ⟨fun _ S' => Q (.v .non) S', fun d _ S' => Q (.v d) S', fun _ _ => False, fun _ _ => False, fun _ => noX⟩ (.exc C fs :: List.replicate (n - 1) .un) S
theorem de_callX (hk : k + 1 ≤ G.k) (hi : G.N[i]? = some y) (hv : Vis G.sc y) (hg : Glb G x) (hm : G.B.mg x = some (.ref g)) (F : FunD G.B.K x x pg bg sg [] kws g fd) (hb : Binds G.B.K fd [a] []) (Sc : FnScope Ng [a] sg) (hd : DSs (hotCf G.B k Ng sg) bg t)
    (hgn : G.B.gn = false := by rfl) (hdy : (y == ("__debug__" : Str)) = false := by decide) (hcd : (y == ("__classdict__" : Str)) = false := by decide) (hdb : (x == ("__debug__" : Str)) = false := by decide)
    (he : ∀ env : Env, starEach [.Name y p1] env = (false, eval (.Name y p1) env) :: starEach [] env := by intro _; rfl) (hpl : ∀ env : Env, (backTo pos (starEach [] env)).any (·.1) = false := by intro _; rfl) :
    DE G (.Call (.Name x p) [.Name y p1] [] pos) (dCallX i Ng.length t) := by
  refine ⟨fun {X en W σ H ρ S E pins s Q} z ⟨C, fs, e1, q⟩ => ?_⟩
  have P0 : PE X (.Name y p1) (tVar i) := z.name hi hv hdy hcd
  obtain ⟨pp, ep, e2, xr⟩ := z.rs.sl i _ e1
  obtain ⟨hpn, vs0, hd3⟩ := z.hf.b.pin pp ep
  have kp : PySem.W.keepIn X.K (.ref g) = true := by rw [z.hf.b.K]; exact F.kp
  obtain ⟨oc, od, dV, kV, doc, pm0, an, cdv, ct, osl, rfl, lk, hcode, hD, _⟩ := F.ex
  refine wpAny_Call_Name_kw (ld_glob z.I (gl_of z.hf.sc hg) (by rw [z.hf.b.mg]; exact hm) (PySem.W.callWith_K (h₀ := X.base) z.I.ok.mod.kin kp ?_ (he _) (hpl _)) hdb)
  refine args_cons (thn (P0.run pins s σ H (fun v' H' => v' = .ref pp.1 ∧ H' = H) z.I ⟨_, e2, rfl, rfl⟩) fun u s1 ⟨v', H1, I1, rx, ev, eh⟩ => args_nil ⟨I1.kIn, ?_⟩) (he _)
  subst ev eh
  obtain rfl : u = Value.ref pp.1 := rx
  have z1 : At G X en W σ H1 ρ S E pins s1 := ⟨z.hf, z.tk, z.rs, I1⟩
  have P1 := I1.pin pp (List.mem_append_left _ hpn)
  have pin : L2H.PinOk X.stack H1 s1 pp := ⟨P1.1, P1.2.1, fun hm => (List.mem_cons.mp (I1.stkSub pp.1 hm)).elim P1.2.2.1 P1.2.2.2.1, P1.2.2.2.2⟩
  obtain ⟨e0, KX⟩ := fits_env z1.hf.b z1.I
  have hr := z.hf.b.rm.mono hk
  have key : codeAny (model G.B.P G.B.w) X.A (.call (.ref g) ⟨[.ref pp.1], []⟩) (CR (L2.CX G.B.P G.B.w) X.stack G.B.P G.B.w H1 s1 (Nx G.B.K en W H1 Q) E0) s1 := by
    have old := fun b o e => (e0.bs b o e).1
    refine codeAny_call_function hr.depth (KX _ _ lk) rfl Sc.co Sc.gen rfl (PySem.W.codeRec_of KX hcode) (hb s1 [.ref pp.1] KX rfl _ _ _ _ ?_)
    refine wpAny_newFunctionEnv_cells Sc.kind (fun y hy => ?_) fun env he s2 w2 => ?_
    · obtain ⟨n, v⟩ := y
      exact (Sc.par n (List.of_mem_zip hy).1).elim (fun q => .inl q) fun q => .inr ⟨q, PySem.W.cellsFrom_some _ _ _ (.inl q)⟩
    subst he
    refine ⟨(e0.mod.nolimit.keeps old).keeps w2.toInCall.keep, codeAny_func ?_⟩
    have J := L2H.inv_startH (CX := L2.CX G.B.P G.B.w) (E := E0) (vs := [.ref pp.1]) Sc pin e0 rfl (.cons rfl .nil) w2
    have hr2 : L2H.RoomH k (X.A.deeper (envOfC x sg s1.heap.objs.size g cdv)) := hr.deeper _
    have ft : Fits (hotCf G.B k Ng sg) (L2H.cxH (L2.CX G.B.P G.B.w) G.B.P G.B.w G.B.K G.B.mg G.B.base Ng x sg g cdv X.A X.stack s1 H1 E0 pp) ⟨W, H1, 0, some pp⟩ :=
      ⟨⟨rfl, rfl, rfl, rfl, rfl, hr2, (fun _ => z.hf.b.gd hgn), (fun h => Bool.noConfusion h), (fun p e => by
        cases e
        exact ⟨List.mem_singleton.mpr rfl, vs0, hd3⟩), fun h => Bool.noConfusion h⟩, rfl, rfl, Sc.nd, fun _ _ => rfl, fun h => Bool.noConfusion h, fun h => Bool.noConfusion h, trivial⟩
    have tk : Takes (L2H.cxH (L2.CX G.B.P G.B.w) G.B.P G.B.w G.B.K G.B.mg G.B.base Ng x sg g cdv X.A X.stack s1 H1 E0 pp) (XT G.B.K ⟨W, H1, 0, some pp⟩ W fun _ => noX) :=
      fun u s' ⟨a, B, sI, pins, σ, H, cls, d, e, I, nb, up, sky, na, os, ag, e2, C, fs, W, S, x, h, g, q⟩ => q.elim
    have rs2 : Rs G.B.K ⟨W, H1, 0, some pp⟩ W (L2.start Ng [.ref pp.1]) H1 (.exc C fs :: List.replicate (Ng.length - 1) .un) S := by
      have hlen : 0 < Ng.length := by
        have := congrArg List.length Sc.pre
        rw [List.length_take] at this
        simp at this
        omega
      refine ⟨z.rs.ho, .refl, ?_, fun j sl e => ?_, fun i j s t a ne e1 o1 e2' o2 q1 q2 => ?_⟩
      · unfold L2.start
        simp only [List.length_cons, List.length_append, List.length_map, List.length_replicate, List.length_nil]
        omega
      · cases j with
        | zero =>
          cases e
          exact ⟨pp, rfl, rfl, xr⟩
        | succ j =>
          rw [List.getElem?_cons_succ, List.getElem?_replicate] at e
          split at e
          · cases e
            trivial
          · cases e
      · cases i with
        | zero =>
          cases e1
          cases o1
        | succ i =>
          rw [List.getElem?_cons_succ, List.getElem?_replicate] at e1
          split at e1
          · cases e1
            cases o1
          · cases e1
    refine wpAny_mono (hd.run (D := ⟨fun _ S' => Q (.v .non) S', fun d _ S' => Q (.v d) S', fun _ _ => False, fun _ _ => False, fun _ => noX⟩) ⟨ft, tk, rs2, J⟩ q) (fun fl s' hs => ?_) fun _ _ hs => hs
    match fl, hs with
    | .ret u, ⟨v, _, H', J, rv, W', σ', ρ', d, S', r, l, rp, q⟩ => exact ⟨v, H', J.os, J.bare, J.base, J.hok, rv, W', .v d, S', r.ho, r.go, rp, q⟩
    | .next, ⟨_, H', J, W', ρ', S', r, l, q⟩ => exact ⟨.non, H', J.os, J.bare, J.base, J.hok, rfl, W', .v .non, S', r.ho, r.go, .non, q⟩
    | .brk, ⟨_, _, _, _, _, _, _, _, q⟩ => exact q.elim
    | .cont, ⟨_, _, _, _, _, _, _, _, q⟩ => exact q.elim
  rw [← z.hf.b.P, ← z.hf.b.w] at key
  refine wpAny_call (codeAny_mono key fun r s'' hq' => ?_)
  match r, hq' with
  | .error er, ⟨_, _, _, _, _, _, _, _, _, _, _, _, hE⟩ => exact False.elim hE
  | .ok (.ret u), hq' => exact z1.I.after hq'
end
end Dt

set_option Elab.async false
set_option linter.all false
set_option maxRecDepth 100000
set_option maxHeartbeats 4000000
/-! DatZE: the law's end where defs make lambdas: their tables are cells of the store -/
namespace Dt
open PySem PySem.Spec PyProof.Rows L2 My He SX LamX
/-- a maker: its code object, the table, its lambdas' name -/
abbrev Mkr := (Addr × Addr) × Str
abbrev sto0 (cs : List Mkr) : Sto := cs.map fun p => Cell.tbl p.1.2 p.2
abbrev LawOkT (P : Program) (w : World) (K : PySem.W.Frag) (mg : Str → Option Value) (k n : Nat) (fa : Addr) (cs : List Mkr) : Prop :=
  ∀ base : Heap, (∀ p ∈ cs, TabB base mg p.1.1 p.1.2) → ∀ ns : List Int, ns.length ≤ n → sFun (bs P w K mg base) k (.ref fa) [] [.lsk (ns.map .int)] [] (sto0 cs) noX fun o _ => o = .v (.bl true)
section
variable {P : Program} {w : World} {K : PySem.W.Frag} {mg mb : Str → Option Value} {k n : Nat} {fa a : Addr} {t : Shared} {vs : List Value} {ns : List Int} {H : Hp} {cs : List Mkr}
theorem law_dT0 (KX : K.In t.heap) (hns : t.heap.Ns mainGlobals mg) (hb : t.heap.Ns builtinsNs mb) (hbb : ∀ x : Str, x ≠ "__name__" → mb x = bootBuiltins x) (hlim : t.heap.NoLimit) (hg : t.gens = #[])
    (hbm : ∃ (bm : Addr) (ob : Obj), mg "__builtins__" = some (.ref bm) ∧ bm ≠ builtinsNs ∧ t.heap.get? bm = some ob ∧ ob.cls = .type "module" ∧ ob.dict = some builtinsNs ∧ ob.data = .plain)
    (T0 : ∀ p ∈ cs.map (·.1), Tbl0 K t.heap p) (nd : (cs.map (·.1.2)).Nodup) (ha : t.heap.get? a = some { cls := .type "list", data := .seq vs.toArray }) (hr : My.RG k callerA) (F : LawOkT P w K mg k n fa cs) (hl : ns.length ≤ n) (hS : ∀ H0 : Hp, (∀ b o u, H b = some (.frz o u) → H0 b = some (.frz o u)) → SqL K H0 a (ns.map V.int))
    (hO : Start (cs.map (·.1)) H a) (hok : HOk P w H t.heap) (hK : H a ≠ none → K.lookup a = none) :
    codeAny (model P w) callerA (.call (.ref fa) ⟨[.ref a], []⟩) (fun r s' => r = .ok (.ret (.bool true)) ∧ OldK t.heap s'.heap ∧ s'.os = t.os ∧ AllBare s'.gens) t := by
  have off : ∀ {b : Addr} {o : Obj}, t.heap.get? b = some o → (∀ ws n, o.data ≠ .seq ws n) → o.data ≠ .fields #[] → H b = none := fun {b o} e n1 n2 => by
    rcases hO.only b with z | ⟨p, hp, rfl⟩ | ⟨rfl, _⟩
    · exact z
    · rw [(T0 p hp).tab] at e
      cases e
      exact absurd rfl n2
    · rw [ha] at e
      cases e
      exact absurd rfl (n1 _ _)
  have kb : K.In (hidT t.heap H) := fun b o e => hidT_get (KX b o e) (by
    rcases hO.only b with z | ⟨p, hp, rfl⟩ | ⟨rfl, o2, xs, z⟩
    · exact z
    · rw [(T0 p hp).out] at e
      cases e
    · rw [hK (by rw [z]; simp)] at e
      cases e)
  have nsK : ∀ {b : Addr} {m : Str → Option Value}, t.heap.Ns b m → (hidT t.heap H).Ns b m := fun {b m} ⟨o, es, ep, e, d, r⟩ => by
    have n1 : ∀ ws n, o.data ≠ .seq ws n := fun ws n z => by
      rw [d] at z
      cases z
    have n2 : o.data ≠ .fields #[] := fun z => by
      rw [d] at z
      cases z
    exact ⟨o, es, ep, hidT_get e (off e n1 n2), d, r⟩
  have hM : Mod K mg (hidT t.heap H) := ⟨kb, nsK hns, ⟨mb, nsK hb, hbb⟩, let ⟨mc, h1, h2⟩ := hlim; ⟨mc, nsK h1, h2⟩⟩
  have TB : ∀ p ∈ cs.map (·.1), TabB (hidT t.heap H) mg p.1 p.2 := fun p hp => by
    obtain ⟨C, tb, _⟩ := T0 p hp
    refine ⟨?_, ?_, fun z => ?_⟩
    · obtain ⟨o, us, f1, f2, f3, f4, f5, f6, f7, e1, r1, r2, r3, r⟩ := C
      refine ⟨o, us, f1, f2, f3, f4, f5, f6, f7, hidT_get e1 (off e1 (fun ws n z => ?_) fun z => ?_), r1, r2, r3, r⟩
      · rw [r2] at z
        cases z
      · rw [r2] at z
        cases z
        cases r3
    · obtain ⟨bm, ob, b1, b2, b3, b4, b5, b6⟩ := hbm
      have n1 : ∀ ws n, ob.data ≠ .seq ws n := fun ws n z => by
        rw [b6] at z
        cases z
      have n2 : ob.data ≠ .fields #[] := fun z => by
        rw [b6] at z
        cases z
      refine ⟨bm, ob, b1, b2, fun q => ?_, fun q => ?_, hidT_get b3 (off b3 n1 n2), b4, b5, b6⟩
      · obtain ⟨o, es, ep, e, d, _⟩ := hns
        rw [q, e] at b3
        cases b3
        rw [d] at b6
        cases b6
      · rw [q, tb] at b3
        cases b3
        cases b6
    · obtain ⟨o, es, ep, e, d, _⟩ := hns
      rw [z, tb] at e
      cases e
      cases d
  have e0 : Env0 P w K mg (hidT t.heap H) callerA [] t H := ⟨rfl, hM, fun b o e => of_hidT e, Nat.le_of_eq (hidT_size _ _), trivial, fun b z => (List.not_mem_nil (a := b) z).elim, hok, .of_eq hg⟩
  -- the world: the script; the tables are cells
  let W : Wd := ⟨fun b => if b ∈ cs.map (·.1.2) then none else H b, fun i => ((cs.map (·.1.2))[i]?).getD 0, cs.length⟩
  have mAt : ∀ i (hi : i < cs.length), W.m i = cs[i].1.2 := fun i hi => by
    show ((cs.map (·.1.2))[i]?).getD 0 = _
    rw [List.getElem?_map, List.getElem?_eq_getElem hi] <;> rfl
  have tabs : ∀ i (hi : i < cs.length), H (W.m i) = some (.tbl #[]) := fun i hi => by
    rw [mAt i hi]
    exact hO.tabs cs[i].1 (List.mem_map.mpr ⟨cs[i], List.getElem_mem hi, rfl⟩)
  have ho : Ho K W H (sto0 cs) := by
    refine ⟨by rw [List.length_map], fun b o e => ?_, fun i j hi hj e => ?_, fun i hi => ?_, fun i hi => ⟨_, tabs i hi⟩, fun i c e => ?_⟩
    · by_cases z : b ∈ cs.map (·.1.2)
      · rw [show W.F b = none from if_pos z] at e
        cases e
      · rw [show W.F b = H b from if_neg z] at e
        exact e
    · have hi' : i < (cs.map (·.1.2)).length := by rw [List.length_map]; exact hi
      have hj' : j < (cs.map (·.1.2)).length := by rw [List.length_map]; exact hj
      rw [mAt i hi, mAt j hj] at e
      refine (List.getElem_inj (h₀ := hi') (h₁ := hj') nd).mp ?_
      rw [List.getElem_map, List.getElem_map]
      exact e
    · refine if_pos ?_
      rw [mAt i hi]
      exact List.mem_map.mpr ⟨cs[i], List.getElem_mem hi, rfl⟩
    · have hi : i < cs.length := by
        have := (List.getElem?_eq_some_iff.mp e).1
        rwa [List.length_map] at this
      rw [List.getElem?_map, List.getElem?_eq_getElem hi] at e
      cases e
      exact ⟨mAt i hi, #[], tabs i hi, True.intro, fun pos cv z => by
        have z : codeAmong pos [] = some cv := z
        simp [codeAmong] at z⟩
  have rd : Reps K W [.lsk (ns.map .int)] [.ref a] := .cons (.lsk (hS W.F fun b o u e => by
    by_cases z : b ∈ cs.map (·.1.2)
    · obtain ⟨p, hp, rfl⟩ := List.mem_map.mp z
      rw [hO.tabs p.1 (List.mem_map.mpr ⟨p, hp, rfl⟩)] at e
      cases e
    · rw [show W.F b = H b from if_neg z]
      exact e) (reps_ints ns)) .nil
  refine codeAny_mono (F (hidT t.heap H) (fun p hp => TB p.1 (List.mem_map.mpr ⟨p, hp, rfl⟩)) ns hl callerA [] t W H ⟨W, H, 0, none⟩ [] [.ref a] [] [.ref a] [] hr e0 KX ho rd .nil (.cons rfl .nil) .nil) fun y s' h => ?_
  match y, h with
  | .error e, h =>
    obtain ⟨_, _, _, _, _, _, _, _, _, _, _, _, hE⟩ := h
    obtain ⟨_, C, fs, W', S', _, _, _, q⟩ := hE
    exact q.elim
  | .ok (.ret u), h =>
    obtain ⟨v, H', os, bare, un, hok', r', W', o, S', _, _, ro, q⟩ := h
    subst q
    cases ro
    obtain rfl : u = Value.bool true := r'
    have grown : ∀ p ∈ cs.map (·.1), ∃ more : Array Value, s'.heap.get? p.2 = some { cls := .none, data := .fields more } := fun p hp => by
      obtain ⟨more, z⟩ := un.tbls p.2 #[] (hO.tabs p hp)
      exact ⟨_, hok' p.2 _ z⟩
    have stays : ∀ b o, t.heap.get? b = some o → (∃ p ∈ cs.map (·.1), b = p.2) ∨ s'.heap.get? b = some o := fun b o e => by
      rcases hO.only b with z | z | ⟨_, ob, xs, z⟩
      · exact .inr (un.keep b o e z (fun z => (List.not_mem_nil (a := b) z).elim) (by simp))
      · exact .inl z
      · obtain ⟨e1, _⟩ := hok b _ z
        obtain ⟨e2, _⟩ := hok' b _ (un.frzs b ob _ z)
        rw [e] at e1
        cases e1
        exact .inr e2
    refine ⟨rfl, ⟨fun b o e => ?_, fun b o e => ?_⟩, os, bare⟩
    · rcases stays b o e with ⟨p, hp, rfl⟩ | z
      · obtain ⟨more, hm⟩ := grown p hp
        rw [(T0 p hp).tab] at e
        cases e
        exact .inr (.inl ⟨((T0 p hp).code.tab (T0 p hp).tab).isCodeTable, rfl, #[], more, rfl, by rw [Array.empty_append]; exact hm⟩)
      · exact .inl z
    · rcases stays b o e with ⟨p, hp, rfl⟩ | z
      · obtain ⟨more, hm⟩ := grown p hp
        exact ⟨_, hm⟩
      · exact ⟨o, z⟩
end
end Dt

set_option Elab.async false
set_option linter.all false
set_option maxRecDepth 100000
set_option maxHeartbeats 4000000
/-! DatZF: the law's end with lambdas, from the script as it lies -/
namespace Dt
open PySem PySem.Spec PyProof.Rows L2 My He SX LamX
theorem law_dT {P : Program} {w : World} {K : PySem.W.Frag} {mg mb : Str → Option Value} {k n : Nat} {fa a : Addr} {t : Shared} {vs : List Value} {ns : List Int} {cs : List Mkr}
    (KX : K.In t.heap) (hns : t.heap.Ns mainGlobals mg) (hb : t.heap.Ns builtinsNs mb) (hbb : ∀ x : Str, x ≠ "__name__" → mb x = bootBuiltins x) (hlim : t.heap.NoLimit) (hg : t.gens = #[])
    (hbm : ∃ (bm : Addr) (ob : Obj), mg "__builtins__" = some (.ref bm) ∧ bm ≠ builtinsNs ∧ t.heap.get? bm = some ob ∧ ob.cls = .type "module" ∧ ob.dict = some builtinsNs ∧ ob.data = .plain)
    (T0 : ∀ p ∈ cs.map (·.1), Tbl0 K t.heap p) (nd : (cs.map (·.1.2)).Nodup) (ha : t.heap.get? a = some { cls := .type "list", data := .seq vs.toArray }) (hi : IntsAre vs ns) (hn : n ≤ sizeLine) (hl : ns.length ≤ n) (hr : My.RG k callerA) (F : LawOkT P w K mg k n fa cs) :
    codeAny (model P w) callerA (.call (.ref fa) ⟨[.ref a], []⟩) (fun r s' => r = .ok (.ret (.bool true)) ∧ OldK t.heap s'.heap ∧ s'.os = t.os ∧ AllBare s'.gens) t := by
  have rv := vals_ints hi
  have hl2 : ns.length ≤ sizeLine := Nat.le_trans hl hn
  have nT : ∀ p ∈ cs.map (·.1), p.2 ≠ a := fun p hp z => by
    have e := (T0 p hp).tab
    rw [z, ha] at e
    cases e
  let tb : Hp := fun b => if b ∈ (cs.map (·.1)).map (·.2) then some (.tbl #[]) else none
  have tb1 : ∀ p ∈ cs.map (·.1), tb p.2 = some (.tbl #[]) := fun p hp => if_pos (List.mem_map.mpr ⟨p, hp, rfl⟩)
  have tb2 : ∀ b u, tb b = some u → (∃ p ∈ cs.map (·.1), b = p.2) ∧ u = .tbl #[] := fun b u e => by
    by_cases hm : b ∈ (cs.map (·.1)).map (·.2)
    · have e2 := (if_pos hm).symm.trans e
      cases e2
      obtain ⟨p, hp, z⟩ := List.mem_map.mp hm
      exact ⟨⟨p, hp, z.symm⟩, rfl⟩
    · have e2 := (if_neg hm).symm.trans e
      cases e2
  have tbok : ∀ b u, tb b = some u → ∀ H : Hp, ObjOk P w H t.heap b u := fun b u e H => by
    obtain ⟨⟨p, hp, rfl⟩, rfl⟩ := tb2 b u e
    exact (T0 p hp).tab
  have tba : tb a = none := by
    cases e : tb a with
    | none => rfl
    | some u =>
      obtain ⟨⟨p, hp, z⟩, _⟩ := tb2 a u e
      exact absurd z.symm (nT p hp)
  cases hk : K.lookup a with
  | some o =>
    have e := KX a o hk
    rw [ha] at e
    cases e
    refine law_dT0 (H := tb) (vs := vs) KX hns hb hbb hlim hg hbm T0 nd ha hr F hl (fun _ _ => .inr ⟨_, vs.toArray, _, hk, rfl, rfl, rfl, by rw [List.size_toArray, hi.length]; exact hl2, by simpa using rv⟩) ⟨tb1, fun b => ?_⟩ (fun b u z => tbok b u z _) (fun z => absurd tba z)
    cases e : tb b with
    | none => exact .inl rfl
    | some u => exact .inr (.inl (tb2 b u e).1)
  | none =>
    let ob : Obj := { cls := .type "list", data := .seq vs.toArray }
    let H : Hp := fun b => if b = a then some (.frz ob (.lst (ns.map V.int))) else tb b
    have Ha : H a = some (.frz ob (.lst (ns.map V.int))) := if_pos rfl
    have Hn : ∀ {b}, b ≠ a → H b = tb b := fun {b} z => if_neg z
    have H1 : ∀ p ∈ cs.map (·.1), H p.2 = some (.tbl #[]) := fun p hp => (Hn (nT p hp)).trans (tb1 p hp)
    refine law_dT0 (H := H) (vs := vs) (ns := ns) KX hns hb hbb hlim hg hbm T0 nd ha hr F hl (fun H0 k0 => .inl (.inr ⟨ob, k0 _ _ _ Ha⟩)) ⟨H1, fun b => ?_⟩ (fun b u z => ?_) fun _ => hk
    · by_cases n : b = a
      · subst n
        exact .inr (.inr ⟨rfl, _, _, Ha⟩)
      · cases e : tb b with
        | none => exact .inl ((Hn n).trans e)
        | some u => exact .inr (.inl (tb2 b u e).1)
    · by_cases n : b = a
      · subst n
        rw [Ha] at z
        cases z
        exact ⟨ha, by rw [List.length_map]; exact hl2, vs, _, rv, ha⟩
      · rw [Hn n] at z
        exact tbok b u z _
theorem walk_dT {l : PySem.W.OpenLaw} {n k : Nat} {q : Program} {loose : List Str} {XP : (Str → Option Value) → Heap → Prop} {YP : World → Heap → Prop} {d : DefRec}
    (hn : l.most = some n) (hn2 : n ≤ sizeLine) (hdf : d.params.defaults = []) (hr : My.RG k callerA)
    (F : ∀ (w : World) (mg : Str → Option Value) (fa : Addr) (h : Heap), YP w h → h.Ns mainGlobals mg → mg d.name = some (.ref fa) → ∃ (K : PySem.W.Frag) (cs : List Mkr), K.In h ∧ (∀ p ∈ cs.map (·.1), Tbl0 K h p) ∧ (cs.map (·.1.2)).Nodup ∧ LawOkT l.prog w K mg k n fa cs) :
    PySem.W.WalkO q loose XP YP l.row.toRowW d [] (fun f vs => PySem.call f vs) := by
  refine Att.attach_call hn hdf fun w s₀ t mg mb fa o pm cd doc a vs ns G Y ho hd hcd hmg hobj hints hlen hg => ?_
  obtain ⟨K, cs, KX, T0, nd, hF⟩ := F w mg fa _ Y G.T.g hmg
  exact law_dT KX G.T.g G.T.b G.T.builtins G.T.nolimit hg G.T.bmain T0 nd hobj hints hn2 hlen hr hF
end Dt

set_option Elab.async false
set_option linter.all false
set_option maxRecDepth 100000
set_option maxHeartbeats 4000000
/-! DatZG: list(zip(a, b)) of two lists -/
namespace Dt
open PySem PySem.Spec PySem.Calls PyProof.Rows L2 My He SX
/-- the zip's own state while the new list S grows -/
def ZlSt (S z TI TO i1 i2 l1 l2 : Addr) (xs ys : Array Value) (i : Nat) (h : Heap) : Prop :=
  IsPair h TI (.ref i1) (.ref i2) ∧ h.IsListIter i1 l1 i ∧ h.IsListIter i2 l2 i ∧ h.IsList l1 xs ∧ h.IsList l2 ys ∧
    ((IsZip h z TI TO .none ∧ ∃ a b, IsPair h TO a b) ∨ ∃ T f oT, IsZipHeld h z TI TO T f ∧ h.get? T = some oT ∧ T ≠ z ∧ T ≠ i1 ∧ T ≠ i2 ∧ T ≠ S)
structure ZlG (xs ys : Array Value) (lo : Addr) (h : Heap) (as : List Addr) : Prop where
  rise : as.Pairwise (· < ·)
  above : ∀ a ∈ as, lo < a
  pairs : ∀ (j : Nat) (a : Addr), as[j]? = some a → ∃ x y, xs[j]? = some x ∧ ys[j]? = some y ∧ IsPair h a x y
structure ZlN (S z TI TO i1 i2 l1 l2 : Addr) : Prop where
  z : z < S
  TI : TI < S
  TO : TO < S
  i1 : i1 < S
  i2 : i2 < S
  l1 : l1 < S
  l2 : l2 < S
section
variable {prog : Program} {w : World} {A : Around} {E : Value → Shared → Prop} {s : Shared} {S z TI TO i1 i2 l1 l2 : Addr} {xs ys : Array Value} {i : Nat}
theorem ZlG.there {lo : Addr} {h : Heap} {as : List Addr} (g : ZlG xs ys lo h as) {a : Addr} (ha : a ∈ as) : a < h.objs.size := by
  obtain ⟨j, hj⟩ := List.mem_iff_getElem?.mp ha
  obtain ⟨_, _, _, _, e⟩ := g.pairs j a hj
  exact Heap.lt_size e
theorem ZlSt.keep {h h' : Heap} (x : ZlSt S z TI TO i1 i2 l1 l2 xs ys i h) (n : ZlN S z TI TO i1 i2 l1 l2) (hk : ∀ b o, b ≠ S → h.get? b = some o → h'.get? b = some o) : ZlSt S z TI TO i1 i2 l1 l2 xs ys i h' := by
  obtain ⟨hTI, h1, h2, hl1, hl2, hz⟩ := x
  refine ⟨hk _ _ (Nat.ne_of_lt n.TI) hTI, h1.at fun o e => hk _ o (Nat.ne_of_lt n.i1) e, h2.at fun o e => hk _ o (Nat.ne_of_lt n.i2) e, hl1.at fun o e => hk _ o (Nat.ne_of_lt n.l1) e, hl2.at fun o e => hk _ o (Nat.ne_of_lt n.l2) e, ?_⟩
  rcases hz with ⟨hz, a, b, hTO⟩ | ⟨T, f, oT, hz, hT, r1, r2, r3, r4⟩
  · exact .inl ⟨hk _ _ (Nat.ne_of_lt n.z) hz, a, b, hk _ _ (Nat.ne_of_lt n.TO) hTO⟩
  · exact .inr ⟨T, f, oT, hk _ _ (Nat.ne_of_lt n.z) hz, hk _ _ r4 hT, r1, r2, r3, r4⟩
end
section
variable {X : Cx} {pins : List (Addr × Obj)} {σ : L2.St} {s : Shared}
end
section
variable {K : PySem.W.Frag} {S : Sto}
end
section
variable {G : Cf} {a b : Expr} {tA : RA} {p p2 pos pos2 : Pos}
end
end Dt

set_option Elab.async false
set_option linter.all false
set_option maxRecDepth 100000
set_option maxHeartbeats 4000000
/-! DatZH: a comprehension over the keys of an own dict (locked while it runs) -/
namespace Dt
open PySem PySem.Spec PyProof.Rows L2 My He SX
/-- J walks xs from here on, as long as nothing but ours changes -/
structure WkG (K : PySem.W.Frag) (W : Wd) (H : Hp) (J : It) (xs : List D) : Prop where
  go : ∀ (i : Nat) W' H' S', Go W H W' H' → Ho K W' H' S' → i < xs.length → J.go i H'
  yl : ∀ (i : Nat) W' H' S' x H2, Go W H W' H' → Ho K W' H' S' → i < xs.length → J.yld i H' x H2 → ∃ d W2, xs[i]? = some d ∧ Ho K W2 H2 S' ∧ Go W' H' W2 H2 ∧ Rep K W2 d x
  st : ∀ (i : Nat) W' H' S', Go W H W' H' → Ho K W' H' S' → xs.length ≤ i → J.stop i H'
section
variable {G : Cf} {X : Cx} {en : En} {W W1 : Wd} {σ : L2.St} {H H1 : Hp} {ρ : List Sl} {S S1 : Sto} {pins : List (Addr × Obj)} {s s1 : Shared} {e a b c o tg : Expr} {pos p : Pos} {x : Str}
/-- the keys of the locked own dict at d -/
theorem RepK.key {K : PySem.W.Frag} {W : Wd} : ∀ {xs : List (Key × D)} {vs : List (Key × V)}, RepK K W xs vs → xs.map (·.1) = vs.map (·.1)
  | _, _, .nil => rfl
  | _, _, .cons _ t => by rw [List.map_cons, List.map_cons, t.key]
theorem rep_kD {K : PySem.W.Frag} {W : Wd} (k : Key) : Rep K W (kD k) (kV k) := by
  cases k with
  | inl i => exact .int i
  | inr x => exact .str x
theorem WkG.keys {K : PySem.W.Frag} {d : Addr} {od : Obj} {kvs : List (Key × D)} {vs : List (Key × V)} (h : H d = some (.frz od (.dK vs))) (nm : ∀ i, i < W.n → W.m i ≠ d) (r : RepK K W kvs vs) : WkG K W H (Itk d od vs) (kvs.map fun p => kD p.1) where
  go := fun i W' H' S' g ho hi => ⟨g.kp d _ h nm, by
    have := congrArg List.length r.key
    rw [List.length_map, List.length_map] at this
    rw [List.length_map] at hi
    omega⟩
  yl := fun i W' H' S' x H2 g ho hi ⟨e, k, v, ek, ex⟩ => by
    subst e ex
    refine ⟨kD k, W', ?_, ho, .refl, rep_kD k⟩
    have e2 : (kvs.map (·.1))[i]? = some k := by rw [r.key, List.getElem?_map, ek] <;> rfl
    rw [List.getElem?_map] at e2 ⊢
    cases c : kvs[i]? with
    | none => rw [c] at e2; cases e2
    | some p =>
      rw [c] at e2
      have e2 : p.1 = k := Option.some.inj e2
      rw [← e2] <;> rfl
  st := fun i W' H' S' g ho hi => ⟨g.kp d _ h nm, by
    have := congrArg List.length r.key
    rw [List.length_map, List.length_map] at this
    rw [List.length_map] at hi
    omega⟩
end
end Dt

set_option Elab.async false
set_option linter.all false
set_option maxRecDepth 100000
set_option maxHeartbeats 4000000
/-! DatZI: comprehensions over dicts of the store: keys, values, pairs (the dict is locked while they run) -/
namespace Dt
open PySem PySem.Spec PyProof.Rows L2 My He SX
/-- J walks xs from here on, while C0 holds of the store -/
structure WkC (K : PySem.W.Frag) (W : Wd) (H : Hp) (J : It) (xs : List D) (C0 : Sto → Prop) : Prop where
  go : ∀ (i : Nat) W' H' S', Go W H W' H' → Ho K W' H' S' → C0 S' → i < xs.length → J.go i H'
  yl : ∀ (i : Nat) W' H' S' x H2, Go W H W' H' → Ho K W' H' S' → C0 S' → i < xs.length → J.yld i H' x H2 → ∃ d W2, xs[i]? = some d ∧ Ho K W2 H2 S' ∧ Go W' H' W2 H2 ∧ Rep K W2 d x
  st : ∀ (i : Nat) W' H' S', Go W H W' H' → Ho K W' H' S' → C0 S' → xs.length ≤ i → J.stop i H'
/-- the turns that are left, C0 at each -/
def LcC (C0 : Sto → Prop) (g : RG) (tt : RT) (te : RE) (ρ : List Sl) : List D → List D → Sto → (List D → Sto → Prop) → Prop
  | [], acc, S, Q => C0 S ∧ Q acc S
  | x :: xs, acc, S, Q => C0 S ∧ (g x ρ S noE fun ρ' S' => tt ρ' S' noE fun c S2 => if c = true then te ρ' S2 noE fun o S3 => ∃ d, o = .v d ∧ acc.length < sizeLine ∧ LcC C0 g tt te ρ xs (acc ++ [d]) S3 Q else LcC C0 g tt te ρ xs acc S2 Q)
theorem LcC.now {C0 : Sto → Prop} {g : RG} {tt : RT} {te : RE} {ρ : List Sl} {S : Sto} {Q : List D → Sto → Prop} : ∀ {xs acc : List D}, LcC C0 g tt te ρ xs acc S Q → C0 S
  | [], _, h => h.1
  | _ :: _, _, h => h.1
/-- one that reads no state -/
theorem lcC_pure {C0 : Sto → Prop} {g : RG} {tt : RT} {te : RE} {ρ : List Sl} {S : Sto} {xs : List D} {R : List D → Sto → Prop} (p : D → Bool) (f : D → D) (hC : C0 S) (hz : xs.length ≤ 1000000) (hs : ∀ x, x ∈ xs → ∀ (X : QO) (Y : Sto → Prop), (p x = true → X (.v (f x)) S) → (p x = false → Y S) →
      g x ρ S noE fun ρ' S' => tt ρ' S' noE fun c S2 => if c = true then te ρ' S2 noE X else Y S2) (hd : R ((xs.filter p).map f) S) : LcC C0 g tt te ρ xs [] S R := by
  have key : ∀ (xs acc : List D), acc.length + xs.length ≤ 1000000 → (∀ x, x ∈ xs → ∀ (X : QO) (Y : Sto → Prop), (p x = true → X (.v (f x)) S) → (p x = false → Y S) →
      g x ρ S noE fun ρ' S' => tt ρ' S' noE fun c S2 => if c = true then te ρ' S2 noE X else Y S2) → R (acc ++ (xs.filter p).map f) S → LcC C0 g tt te ρ xs acc S R := by
    intro xs
    induction xs with
    | nil =>
      intro acc _ _ hd
      have hd2 : R acc S := by simpa using hd
      exact ⟨hC, hd2⟩
    | cons y ys ih =>
      intro acc hz hs hd
      rw [List.length_cons] at hz
      refine ⟨hC, hs y (.head _) _ _ (fun c => ⟨f y, rfl, by rw [sizeLine_eq]; omega, ?_⟩) fun c => ?_⟩
      · refine ih (acc ++ [f y]) (by rw [List.length_append]; show acc.length + 1 + ys.length ≤ _; omega) (fun x hx => hs x (.tail _ hx)) ?_
        rw [List.filter_cons, if_pos c, List.map_cons] at hd
        rw [List.append_assoc]
        exact hd
      · refine ih acc (by omega) (fun x hx => hs x (.tail _ hx)) ?_
        rwa [List.filter_cons, if_neg (by rw [c]; exact Bool.false_ne_true)] at hd
  exact key xs [] (by simpa using hz) hs (by simpa using hd)
section
variable {G : Cf} {X : Cx} {en : En} {W W1 : Wd} {σ : L2.St} {H H1 : Hp} {ρ : List Sl} {S S1 : Sto} {pins : List (Addr × Obj)} {s s1 : Shared} {e a b c o tg iter : Expr} {pos p apos cpos : Pos} {x : Str}
theorem lc_turnsR {elt : Expr} {ifs : List Expr} {scope : Scope} {own : List (Str × Nat)} {ws : List Nat} {g : RG} {tt : RT} {te : RE} {Q : List D → Sto → Prop} {J : It} {xs : List D} {C0 : Sto → Prop} (hc : G.B.cal = false) (hw : ∀ j, j ∈ ws → j ∈ own.map (·.2)) (hg : DG (G.blk scope) tg ws g) (ht : DTs (G.blk scope) ifs tt) (he : DE (G.blk scope) elt te) (hf : Fits G X en) (rs : Rs G.B.K en W1 σ H1 ρ S1)
    (wk : WkC G.B.K W1 H1 J xs C0) (q1 : LcC C0 g tt te (wipeS ρ (own.map (·.2))) xs [] S1 Q) (L : Addr) (hL : H1 L = none) : ∃ Wv : Nat → Nat → Hp → Prop, (∃ m, Wv 0 m (upd H1 L (.lst []))) ∧ ∀ i m H, Wv i m H →
  (J.stop i H ∧ ∃ W2 vs xs S2, H L = some (.lst vs) ∧ Reps G.B.K W2 xs vs ∧ Ho G.B.K W2 H S2 ∧ Go W1 H1 W2 H ∧ W2.F L = none ∧ (∀ i, i < W2.n → W2.m i ≠ L) ∧ C0 S2 ∧ Q xs S2) ∨ (J.go i H ∧ ∃ Nx : Hp → Prop, (∀ H', Nx H' → ∃ m', m' < m ∧ Wv (i + 1) m' H') ∧ ∀ x H', J.yld i H x H' → tGb X scope tg x (L2.wipe σ (own.map (·.2))) H' fun σ2 H2 => L2.wipe σ2 (own.map (·.2)) = L2.wipe σ (own.map (·.2)) ∧ tTb X scope ifs σ2 H2 fun b H3 =>
    if b = true then tEb X scope elt σ2 H3 fun y H4 => ∃ acc, H4 L = some (.lst acc) ∧ acc.length < sizeLine ∧ Nx (upd H4 L (.lst (acc ++ [y]))) else Nx H3) := by
  have r1 := rs.wipe (own.map (·.2))
  have h1 := rs.ho
  have nm : ∀ i, i < W1.n → W1.m i ≠ L := fun i hi c => by
    obtain ⟨u2, e2⟩ := h1.there i hi
    rw [c, hL] at e2
    cases e2
  have nE : en.H L = none := by
    have g0 := rs.go
    cases y : en.H L with
    | none => rfl
    | some u =>
      by_cases c : ∃ i, i < en.W.n ∧ en.W.m i = L
      · obtain ⟨i, hi, c⟩ := c
        rw [← g0.le.m i hi] at c
        exact (nm i (Nat.lt_of_lt_of_le hi g0.le.n) c).elim
      · have := g0.kp L u y fun i hi k => c ⟨i, hi, k⟩
        rw [hL] at this
        cases this
  have w0 : Own en W1 (upd H1 L (.lst [])) L := ⟨h1.nF hL, nE, nm⟩
  have w1 : Own en W1 H1 L := ⟨h1.nF hL, nE, nm⟩
  refine ⟨fun i m H' => m = xs.length - i ∧ i ≤ xs.length ∧ ∃ W' S' acc vs, H' L = some (.lst vs) ∧ Reps G.B.K W' acc vs ∧ Ho G.B.K W' H' S' ∧ Go W1 H1 W' H' ∧ Own en W' H' L ∧ LcC C0 g tt te (wipeS ρ (own.map (·.2))) (xs.drop i) acc S' Q,
    ⟨xs.length, by simp, Nat.zero_le _, W1, S1, [], [], upd_same, .nil, h1.own_put w1, Go.own_put .refl hL, w0, by simpa using q1⟩, ?_⟩
  rintro i m H2 ⟨rfl, hi, W2, S2, acc, vs, eL, ra, h2, g2, w2, q2⟩
  by_cases hlt : i < xs.length
  · refine .inr ⟨wk.go i W2 H2 S2 g2 h2 (LcC.now q2) hlt, fun H' => ∃ W' S' acc vs, H' L = some (.lst vs) ∧ Reps G.B.K W' acc vs ∧ Ho G.B.K W' H' S' ∧ Go W1 H1 W' H' ∧ Own en W' H' L ∧ LcC C0 g tt te (wipeS ρ (own.map (·.2))) (xs.drop (i + 1)) acc S' Q, fun H' k => ⟨_, by omega, rfl, hlt, k⟩, fun x H3 y => ?_⟩
    obtain ⟨d, W3, ed, h3, g3, rd⟩ := wk.yl i W2 H2 S2 x H3 g2 h2 (LcC.now q2) hlt y
    rw [List.drop_eq_getElem_cons hlt] at q2
    replace q2 := q2.2
    have e2 : xs[i] = d := by
      rw [List.getElem?_eq_getElem hlt] at ed
      exact Option.some.inj ed
    rw [e2] at q2
    intro s0 H0 C cl fp pins3 s3 u I3 ru
    have ef : Fits (G.blk scope) (X.blk s0 H0 scope (compEnvC scope cl C X.env) fp) en := hf.blk hc
    have z3 : At (G.blk scope) (X.blk s0 H0 scope (compEnvC scope cl C X.env) fp) en W3 (L2.wipe σ (own.map (·.2))) H3 (wipeS ρ (own.map (·.2))) S2 noE pins3 s3 := ⟨ef, takes_no, (r1.after h2 g2).after h3 g3, I3⟩
    refine thn (hg.run z3 rd ru q2) fun _ s4 ⟨σ4, H4, W4, ρ4, S4, z4, ⟨l4, q4⟩, ⟨k4, n4⟩, g4⟩ => ⟨σ4, H4, z4.I, ?_, ?_⟩
    · have e1 := wipe_eq (own.map (·.2)) n4 fun j hj => k4 j fun c => hj (hw j c)
      rw [e1]
      exact wipe_eq _ (wipe_length _ _) fun j hj => wipe_out hj
    · intro s01 H01 C1 cl1 fp1 pins5 s5 I5
      have ef1 : Fits (G.blk scope) (X.blk s01 H01 scope (compEnvC scope cl1 C1 X.env) fp1) en := hf.blk hc
      have z5 : At (G.blk scope) (X.blk s01 H01 scope (compEnvC scope cl1 C1 X.env) fp1) en W4 σ4 H4 ρ4 S4 noE pins5 s5 := ⟨ef1, takes_no, z4.rs, I5⟩
      refine thn (ht.run z5 q4) fun b s6 ⟨H6, I6, W6, S6, h6, g6, q6⟩ => ⟨H6, I6, ?_⟩
      have g26 : Go W2 H2 W6 H6 := ((g3.trans g4 z4.rs.ho).trans g6 h6)
      cases b with
      | false =>
        simp only [Bool.false_eq_true, if_false] at q6 ⊢
        exact ⟨W6, S6, acc, vs, g26.kp L _ eL w2.m, ra.le g26.le, h6, g2.trans g26 h6, w2.go g26 eL, q6⟩
      | true =>
        simp only [if_true] at q6 ⊢
        intro s02 H02 C2 cl2 fp2 pins7 s7 I7
        have ef2 : Fits (G.blk scope) (X.blk s02 H02 scope (compEnvC scope cl2 C2 X.env) fp2) en := hf.blk hc
        have z7 : At (G.blk scope) (X.blk s02 H02 scope (compEnvC scope cl2 C2 X.env) fp2) en W6 σ4 H6 ρ4 S6 noE pins7 s7 := ⟨ef2, takes_no, z5.rs.after h6 g6, I7⟩
        refine thn (he.run z7 q6) fun v8 s8 ⟨x8, H8, I8, r8, W8, o8, S8, h8, g8, ro8, d8, eo, hz, q8⟩ => ?_
        subst eo
        have g28 := g26.trans g8 h8
        have eL8 := g28.kp L _ eL w2.m
        have w8 := w2.go g28 eL
        refine ⟨x8, H8, I8, r8, vs, eL8, by rw [ra.len]; exact hz, W8, S8, acc ++ [d8], vs ++ [x8], upd_same, (ra.le g28.le).app (.cons ro8 .nil), h8.own_put w8, Go.own_put (g2.trans g28 h8) hL, ⟨w8.f, w8.e, w8.m⟩, q8⟩
  · have e : i = xs.length := by omega
    subst e
    rw [List.drop_length] at q2
    have c2 := q2.1
    replace q2 := q2.2
    exact .inl ⟨wk.st _ W2 H2 S2 g2 h2 c2 (Nat.le_refl _), W2, vs, acc, S2, eL, ra, h2, g2, w2.f, w2.m, c2, q2⟩
/-- the value of e, locked -/
def tLk (X : Cx) (td : TE) : TE := fun σ H Q => td σ H fun x H1 => ∃ d u, x = .ref d ∧ H1 d = some u ∧ Mut (some u) ∧ ∀ od, (∀ o' u', X.H_0 d ≠ some (.frz o' u')) → Q x (upd H1 d (.frz od u))
theorem pe_lk {td : TE} (h : PE X e td) : PE X e (tLk X td) := by
  refine ⟨fun pins s σ H Q I q => ?_⟩
  refine thn (h.run pins s σ H _ I q) fun v s1 ⟨x, H1, I1, r, d, u, ex, hu, mu, q1⟩ => ?_
  obtain ⟨od, I2⟩ := I1.lock hu mu
  exact ⟨x, _, I2, r, q1 od (I1.nofrz hu mu)⟩
abbrev RL := List Sl → Sto → XD → (Nat → List (Key × D) → List D → Sto → Prop) → Prop
/-- an iteration over a dict of the store -/
structure DIL (G : Cf) (tg iter : Expr) (t : RL) : Prop where
  run : ∀ {X en W σ H ρ S E pins s} {Q : Nat → List (Key × D) → List D → Sto → Prop}, At G X en W σ H ρ S E pins s → t ρ S E Q →
    wpAny (model X.prog X.w) X.A (eval iter X.env) (fun v s1 => wpAny (model X.prog X.w) X.A (pyIter v) (PIE X pins σ tg fun J H' => ∃ W' S1 p kvs vs od xs, Ho G.B.K W' H' (S1.set p (.lck (.frz od (.dK vs)) kvs)) ∧ Go W H W' H' ∧
      WkC G.B.K W' H' J xs (fun S' => S'[p]? = some (.lck (.frz od (.dK vs)) kvs)) ∧ p < W'.n ∧ (∀ o' u', X.H_0 (W'.m p) ≠ some (.frz o' u')) ∧ Q p kvs xs S1) X.xe s1) X.xe s
/-- what a locked dict of the store gives to its walks -/
theorem lck_at {K : PySem.W.Frag} {i : Nat} {od : Obj} {vs : List (Key × V)} {kvs : List (Key × D)} (ho : Ho K W H S) (h : S[i]? = some (.lck (.frz od (.dK vs)) kvs)) : H (W.m i) = some (.frz od (.dK vs)) ∧ RepK K W kvs vs := by
  obtain ⟨e, od', vs', e2, r⟩ := ho.cel i _ h
  cases e2
  exact ⟨e, r⟩
theorem RepK.len2 {K : PySem.W.Frag} {kvs : List (Key × D)} {vs : List (Key × V)} (r : RepK K W kvs vs) : kvs.length = vs.length := by
  have := congrArg List.length r.key
  rwa [List.length_map, List.length_map] at this
theorem WkC.keys {K : PySem.W.Frag} {i : Nat} {od : Obj} {kvs : List (Key × D)} {vs : List (Key × V)} (hi : i < W.n) : WkC K W H (Itk (W.m i) od vs) (kvs.map fun p => kD p.1) (fun S' => S'[i]? = some (.lck (.frz od (.dK vs)) kvs)) where
  go := fun j W' H' S' g ho c hj => by
    obtain ⟨e, r⟩ := lck_at ho c
    rw [g.le.m i hi] at e
    rw [List.length_map, r.len2] at hj
    exact ⟨e, hj⟩
  yl := fun j W' H' S' x H2 g ho c hj ⟨e, k, v, ek, ex⟩ => by
    subst e ex
    obtain ⟨_, r⟩ := lck_at ho c
    refine ⟨kD k, W', ?_, ho, .refl, rep_kD k⟩
    have e2 : (kvs.map (·.1))[j]? = some k := by rw [r.key, List.getElem?_map, ek] <;> rfl
    rw [List.getElem?_map] at e2 ⊢
    cases c : kvs[j]? with
    | none => rw [c] at e2; cases e2
    | some p =>
      rw [c] at e2
      have e2 : p.1 = k := Option.some.inj e2
      rw [← e2] <;> rfl
  st := fun j W' H' S' g ho c hj => by
    obtain ⟨e, r⟩ := lck_at ho c
    rw [g.le.m i hi] at e
    rw [List.length_map, r.len2] at hj
    exact ⟨e, hj⟩
abbrev iKeyD (ti : RE) : RL := fun ρ S E Q => ti ρ S E fun o S1 => ∃ n kvs, o = .v (.ptr n) ∧ S1[n]? = some (.dct kvs) ∧ Q n kvs (kvs.map fun p => kD p.1) S1
theorem dil_keys {ti : RE} (he : DE G iter ti) : DIL G tg iter (iKeyD ti) := by
  refine ⟨fun {X en W σ H ρ S E pins s Q} z q => ?_⟩
  refine (pi_keys (X := X) (tg := tg) (pe_lk (pcan X iter))).run pins s σ H _ z.I fun pins' s' I => ?_
  refine he.at (z.re I) q fun v s2 x' H1 W1 o S1 z1 g1 r1 ro ⟨n, kvs, eo, en, q1⟩ => ?_
  subst eo
  obtain ⟨vs, e1, rk⟩ := z1.rs.ho.cel n _ en
  have hn := cell_lt z1.rs.ho en
  have ex : x' = .ref (W1.m n) := by
    cases ro
    rfl
  subst ex
  refine ⟨_, H1, z1.I, r1, W1.m n, _, rfl, e1, trivial, fun od nf => ⟨W1.m n, od, rfl, .inl ⟨vs, upd_same, W1, S1, n, kvs, vs, od, _, z1.rs.ho.put hn ⟨upd_same, od, vs, rfl, rk⟩, g1.trans (Go.put hn) (z1.rs.ho.put (c := .lck (.frz od (.dK vs)) kvs) hn ⟨upd_same, od, vs, rfl, rk⟩), .keys hn, hn, nf, q1⟩⟩⟩
/-- [.. for .. in a dict of the store ..] -/
abbrev fLcL (ti : RL) (g : RG) (tt : RT) (te : RE) (ws : List Nat) : RF := fun ρ S E Q => ti ρ S E fun n kvs xs S1 => ∀ u : HO, LcC (fun S' => S'[n]? = some (.lck u kvs)) g tt te (wipeS ρ ws) xs [] (S1.set n (.lck u kvs)) fun ys S2 => Q ys (S2.set n (.dct kvs))
theorem df_lcL {elt : Expr} {ifs : List Expr} {scope : Scope} {own : List (Str × Nat)} {ws : List Nat} {ti : RL} {g : RG} {tt : RT} {te : RE} (hc : G.B.cal = false) (hw : ∀ j, j ∈ ws → j ∈ own.map (·.2)) (hi : DIL G tg iter ti) (ok : BlkOk G.N G.sc scope own) (hg : DG (G.blk scope) tg ws g) (ht : DTs (G.blk scope) ifs tt) (he : DE (G.blk scope) elt te)
    (hs : ∀ (env : Env) y, foldedSetIterable iter env y = pure y := by intro _ _; rfl) : DF G (.ListComp elt [⟨tg, iter, ifs, 0⟩] scope pos) (fLcL ti g tt te (own.map (·.2))) := by
  refine ⟨fun {X en W σ H ρ S E pins s Q} z q => ?_⟩
  have PP := pe_lc (X := X) (elt := elt) (tg := tg) (iter := iter) (ifs := ifs) (scope := scope) (own := own) (pos := pos) (wi := tIr X tg iter) (g := tGb X scope tg) (tt := tTb X scope ifs) (te := tEb X scope elt) (z.hf.b.cm hc).1 z.hf.nd (ican X tg iter) (by rw [z.hf.N, z.hf.sc]; exact ok)
    (fun s H C cl fp => ⟨fun pins s' σ H v u Q I r h => h _ _ _ _ _ pins s' u I r⟩) (fun s H C cl fp => ⟨fun pins s' σ H Q I h => h _ _ _ _ _ pins s' I⟩) (fun s H C cl fp => ⟨fun pins s' σ H Q I h => h _ _ _ _ _ pins s' I⟩) (hs _)
  refine thn (PP.run pins s σ H (fun v H2 => ∃ a W2 vs ys S2 n kvs vs0 od, v = .ref a ∧ H2 a = some (.lst vs) ∧ Reps G.B.K W2 ys vs ∧ Ho G.B.K W2 H2 S2 ∧ Go W H W2 H2 ∧ H a = none ∧ W2.F a = none ∧ (∀ i, i < W2.n → W2.m i ≠ a) ∧ S2[n]? = some (.lck (.frz od (.dK vs0)) kvs) ∧ (∀ o' u', X.H_0 (W2.m n) ≠ some (.frz o' u')) ∧ Q ys (S2.set n (.dct kvs))) z.I ?_) fun v s1 ⟨x, H1, I1, r1, a, W1, vs, xs, S1, n, kvs, vs0, od, e, ha, rr, h1, g1, na, nf, nm, cS, fz, q1⟩ => ?_
  · intro pins' s' I
    refine thn (hi.run (z.re I) q) fun v s1 h1 => thn h1 fun itv s2 h2 => ?_
    refine pi_imp (fun J H1 ⟨W1, S1, n, kvs, vs0, od, xs, h1, g1, wk, hn, fz, q1⟩ L hL => ?_) h2
    have hL0 : H L = none := by
      cases y : H L with
      | none => rfl
      | some u =>
        by_cases c : ∃ i, i < W.n ∧ W.m i = L
        · obtain ⟨i, hi, c⟩ := c
          rw [← g1.le.m i hi] at c
          obtain ⟨u2, e2⟩ := h1.there i (Nat.lt_of_lt_of_le hi g1.le.n)
          rw [c, hL] at e2
          cases e2
        · have := g1.kp L u y fun i hi k => c ⟨i, hi, k⟩
          rw [hL] at this
          cases this
    obtain ⟨Wv, m0, st⟩ := lc_turnsR hc hw hg ht he z.hf (z.rs.after h1 g1) wk (q1 (.frz od (.dK vs0))) L hL
    exact ⟨Wv, m0, fun i m H w => (st i m H w).imp (fun ⟨p1, W2, vs, ys, S2, eL, ra, h2, g2, f2, m2, c2, q2⟩ => ⟨p1, L, W2, vs, ys, S2, n, kvs, vs0, od, rfl, eL, ra, h2, g1.trans g2 h2, hL0, f2, m2, c2, by rw [g2.le.m n hn]; exact fz, q2⟩) id⟩
  · subst e
    obtain rfl : v = Value.ref a := r1
    obtain ⟨ed, rk⟩ := lck_at h1 cS
    have hn := cell_lt h1 cS
    have ho2 := h1.put (o := .dK vs0) (c := .dct kvs) hn ⟨vs0, upd_same, rk⟩
    exact ⟨a, _, W1, vs, xs, _, I1.unlock ed fz, rfl, by rw [upd_ne (Ne.symm (nm n hn))]; exact ha, rr, ho2, g1.trans (Go.put hn) ho2, na, nf, nm, q1⟩
end
end Dt

set_option Elab.async false
set_option linter.all false
set_option maxRecDepth 100000
set_option maxHeartbeats 4000000
/-! DatZJ: in of a tuple of data, in by an own __contains__, count of truth values -/
namespace L2
open PySem PySem.Spec PyProof.Rows
variable {X : Cx}
/-- the truth values that are c -/
def eqb (c : Bool) (v : Value) : Bool := match v with
  | .bool n => n == c
  | _ => false
inductive BlsAre : List Value → List Bool → Prop
  | nil : BlsAre [] []
  | cons (b : Bool) {us : List Value} {ns : List Bool} (h : BlsAre us ns) : BlsAre (.bool b :: us) (b :: ns)
theorem bls_of_vals : ∀ {ns : List Bool} {us : List Value}, Vals (ns.map V.bl) us → BlsAre us ns
  | [], _, .nil => .nil
  | _ :: _, _, .cons h t => by
    cases h
    exact .cons _ (bls_of_vals t)
theorem eqb_at {c : Bool} {A : Around} {s : Shared} : ∀ {us : List Value} {ns : List Bool}, BlsAre us ns → ∀ y ∈ us, SeqAt.EqAt A s y (.bool c) (eqb c y)
  | _, _, .nil => fun y hy => by cases hy
  | _, _, .cons n h => fun y hy => by
    rcases List.mem_cons.mp hy with e | e
    · rw [e]
      exact SeqAt.EqAt.bool_bool n c
    · exact eqb_at h y e
theorem eqb_count {c : Bool} : ∀ {us : List Value} {ns : List Bool}, BlsAre us ns → us.countP (eqb c) = ns.count c
  | _, _, .nil => rfl
  | _, _, .cons n h => by
    have ih := eqb_count (c := c) h
    rw [List.countP_cons, List.count_cons, ih] <;> rfl
def rCntB (K : PySem.W.Frag) : V → List V → Hp → VK → Prop := fun x xs H Q => ∃ (p : Addr) (ns : List Bool) (k : Bool), x = .ref p ∧ xs = [.bl k] ∧ SqL K H p (ns.map V.bl) ∧ Q (.int (ns.count k : Nat)) H
theorem mt_countB : MtR X "list.count" (rCntB X.K) := by
  intro pins s σ H x xs v us Q I rx rxs h
  obtain ⟨p, ns, k, rfl, rfl, hs, q⟩ := h
  cases rx
  obtain ⟨u, rfl, ru⟩ := rxs.one
  cases ru
  obtain ⟨its, rv, ⟨⟨cls, dd, data, sl⟩, n, ho, hc, hdn, hd⟩, hlen⟩ := I.list hs
  simp only at hc hd
  subst hc hd
  have hi := bls_of_vals rv
  refine call_meets PySem.F.slot_list_count ⟨_, ho, rfl⟩ PySem.F.entry_list_count (PySem.F.args_list_count_2 _ _)
    (SeqAt.list_countAt p its.toArray n dd sl (.bool k) (eqb k)) ⟨ho, fun y hy => eqb_at hi y (by simpa using hy), ?_⟩
  have ec : its.toArray.toList.countP (eqb k) = ns.count k := eqb_count hi
  refine ⟨.int (ns.count k : Nat), H, I.tok _, ⟨s.toks, ?_⟩, q⟩
  show Value.int ((its.toArray.toList.countP (eqb k) : Nat) : Int) s.toks = Value.int ((ns.count k : Nat) : Int) s.toks
  rw [ec]
end L2
namespace Dt
open PySem PySem.Spec PySem.W PyProof.Rows L2 My He SX
variable {B : Bs} {k : Nat} {S : Sto} {Ex : XS} {Q : QO} {C : Str} {fs : List (Str × D)} {d e : D} {f : Addr} {o p : O}
theorem m_countB {c : Bool} {bs : List Bool} {o : O} (h : LsO S o (bs.map .bl)) (q : Q (.v (.int (bs.count c : Nat))) S) : sCall B k (.builtin "list.count") [] [o, .v (.bl c)] [] S Ex Q := liftM (r := rCntB B.K) (fun {X en} ft => by
    have z := mt_countB (X := X)
    rw [ft.K] at z
    exact z) fun en W H x' xs' ho rx rxs => by
  obtain ⟨a, vs, rfl, hd, r⟩ := lsO_at ho h rx
  cases rxs with
  | cons r1 t =>
    cases t
    cases r1
    rw [Reps.bls r] at hd
    exact ⟨a, bs, c, rfl, rfl, .inl hd, nx ho (.int _) q⟩
end Dt

set_option Elab.async false
set_option linter.all false
set_option maxRecDepth 100000
set_option maxHeartbeats 4000000
/-! DatZK: data that is small enough to be compared and shown; equality of lists of data by their items -/
namespace Dt
open PySem PySem.Spec PyProof.Rows L2 My He SX
/-- depth at most n, weight at most w, its numbers' texts at most b long -/
structure Fine (n w b : Nat) (p : PyData) : Prop where
  lay : p.canLay0 = true
  dep : p.depth ≤ n
  shw : p.showable = true
  wt : p.weight ≤ w
  lf : p.leavesShort b = true
theorem Fine.mono {n w b m u : Nat} {p : PyData} (h : Fine n w b p) (h1 : n ≤ m) (h2 : w ≤ u) : Fine m u b p := ⟨h.lay, Nat.le_trans h.dep h1, h.shw, Nat.le_trans h.wt h2, h.lf⟩
theorem fp_none {n w b : Nat} : Fine n w b .none := ⟨rfl, Nat.zero_le _, rfl, Nat.zero_le _, rfl⟩
theorem fp_bool {n w b : Nat} {c : Bool} : Fine n w b (.bool c) := ⟨rfl, Nat.zero_le _, rfl, Nat.zero_le _, rfl⟩
theorem log_lt {i k : Nat} (h : i < 2 ^ k) (hk : 0 < k) : i.log2 < k := by
  by_cases h0 : i = 0
  · subst h0
    exact hk
  · exact (Nat.log2_lt h0).mpr h
theorem fp_int {n w b k : Nat} {i : Int} (h : i.natAbs < 2 ^ k) (hk : 0 < k) (hk2 : k ≤ w) (hk3 : k ≤ 1920) (hl : (PyData.shown (.int i)).length ≤ b) : Fine n w b (.int i) where
  lay := rfl
  dep := Nat.zero_le _
  shw := by
    have := log_lt h hk
    show decide _ = true
    exact decide_eq_true (by omega)
  wt := by
    have := log_lt h hk
    show (if i == 0 then 0 else i.natAbs.log2 + 1) ≤ w
    split <;> omega
  lf := by
    show decide _ = true
    exact decide_eq_true hl
/-- an integer below 10 ^ 12 -/
theorem fp_small {n w : Nat} {i : Int} (h : i.natAbs < 10 ^ 12) (hw : 40 ≤ w) : Fine n w 13 (.int i) :=
  fp_int (k := 40) (Nat.lt_of_lt_of_le h (by decide)) (by decide) hw (by decide) (PyData.shown_int_le h)
theorem fp_str {n w b : Nat} {x : Str} (h : PyData.strOk x = true) (hw : x.cps.size ≤ w) : Fine n w b (.str x) where
  lay := h
  dep := Nat.zero_le _
  shw := rfl
  wt := hw
  lf := by
    have := PyData.leavesShort_of_canLay0 b (.str x) h rfl
    exact this
theorem fps_lay {n w b : Nat} : ∀ {xs : List PyData}, (∀ x ∈ xs, Fine n w b x) → PyData.canLayAll0 xs = true
  | [], _ => rfl
  | x :: xs, h => by
    show (PyData.canLay0 x && PyData.canLayAll0 xs) = true
    rw [(h x (.head _)).lay, fps_lay fun y hy => h y (.tail _ hy)] <;> rfl
theorem fps_dep {n w b : Nat} : ∀ {xs : List PyData}, (∀ x ∈ xs, Fine n w b x) → PyData.depthAll xs ≤ n
  | [], _ => Nat.zero_le _
  | x :: xs, h => Nat.max_le.mpr ⟨(h x (.head _)).dep, fps_dep fun y hy => h y (.tail _ hy)⟩
theorem fps_shw {n w b : Nat} : ∀ {xs : List PyData}, (∀ x ∈ xs, Fine n w b x) → PyData.showableAll xs = true
  | [], _ => rfl
  | x :: xs, h => by
    show (PyData.showable x && PyData.showableAll xs) = true
    rw [(h x (.head _)).shw, fps_shw fun y hy => h y (.tail _ hy)] <;> rfl
theorem fps_wt {n w b : Nat} : ∀ {xs : List PyData}, (∀ x ∈ xs, Fine n w b x) → PyData.weightAll xs ≤ xs.length * (w + 1)
  | [], _ => Nat.zero_le _
  | x :: xs, h => by
    have h1 := (h x (.head _)).wt
    have h2 := fps_wt fun y hy => h y (.tail _ hy)
    show PyData.weight x + 1 + PyData.weightAll xs ≤ _
    rw [List.length_cons, Nat.add_mul]
    omega
theorem fps_lf {n w b : Nat} : ∀ {xs : List PyData}, (∀ x ∈ xs, Fine n w b x) → PyData.leavesShortAll b xs = true
  | [], _ => rfl
  | x :: xs, h => by
    show (PyData.leavesShort b x && PyData.leavesShortAll b xs) = true
    rw [(h x (.head _)).lf, fps_lf fun y hy => h y (.tail _ hy)] <;> rfl
theorem Fine.list {n w b u : Nat} {xs : List PyData} (h : ∀ x ∈ xs, Fine n w b x) (hu : xs.length * (w + 1) ≤ u) : Fine (n + 1) u b (.list xs) :=
  ⟨fps_lay h, Nat.succ_le_succ (fps_dep h), fps_shw h, Nat.le_trans (fps_wt h) hu, fps_lf h⟩
theorem Fine.tuple {n w b u : Nat} {xs : List PyData} (h : ∀ x ∈ xs, Fine n w b x) (hu : xs.length * (w + 1) ≤ u) : Fine (n + 1) u b (.tuple xs) :=
  ⟨fps_lay h, Nat.succ_le_succ (fps_dep h), fps_shw h, Nat.le_trans (fps_wt h) hu, fps_lf h⟩
theorem fps_nil {n w b : Nat} : ∀ x ∈ ([] : List PyData), Fine n w b x := fun x hx => by cases hx
theorem fps_cons {n w b : Nat} {x : PyData} {xs : List PyData} (h : Fine n w b x) (t : ∀ x ∈ xs, Fine n w b x) : ∀ y ∈ x :: xs, Fine n w b y := fun y hy => by
  rcases List.mem_cons.mp hy with z | z
  · rw [z]
    exact h
  · exact t y z
theorem fps_map {α : Type} {n w b : Nat} {f : α → PyData} {xs : List α} (h : ∀ x ∈ xs, Fine n w b (f x)) : ∀ y ∈ xs.map f, Fine n w b y := fun y hy => by
  obtain ⟨x, hx, rfl⟩ := List.mem_map.mp hy
  exact h x hx
theorem Fine.shaped {n w b : Nat} {p : PyData} (h : Fine n w b p) (hn : n ≤ 64) : SeqAt.shaped p = true := by
  unfold SeqAt.shaped
  rw [h.lay, Bool.true_and]
  exact decide_eq_true (Nat.le_trans h.dep hn)
theorem Fine.nd {n w b : Nat} {p : PyData} (h : Fine n w b p) : p.hasDict = false := PyData.hasDict_of_canLay p h.lay
theorem Fine.fits {n w b : Nat} {p : PyData} (h : Fine n w b p) (hb : 8 ≤ b) (hw : (b + 2) * w + b ≤ 16777216) : p.shown.length ≤ sizeLine := by
  rw [sizeLine_eq]
  refine Nat.le_trans (PyData.shown_le b hb p h.lf) (Nat.le_trans ?_ hw)
  have := Nat.mul_le_mul_left (b + 2) h.wt
  omega
variable {B : Bs} {k : Nat} {S : Sto} {Ex : XS} {Q : QO} {o p : O} {e f : PyData} {n w b : Nat} {es : List PyData}
theorem s_neF {n' w' b' : Nat} (h1 : PdO S o e) (h2 : PdO S p f) (s1 : Fine n w b e) (s2 : Fine n' w' b' f) (n1 : n ≤ 64) (n2 : n' ≤ 64) (q : Q (.v (.bl (!PyData.eqv e f))) S) : sem2 B k (compareOp .NotEq) o p S Ex Q := s_neD h1 h2 (s1.shaped n1) (s2.shaped n2) q
theorem pds_map {α : Type} {f : α → D} {g : α → PyData} (h : ∀ a, pd (f a) = some (g a)) : ∀ xs : List α, pds (xs.map f) = some (xs.map g)
  | [] => rfl
  | x :: xs => by
    have ih := pds_map h xs
    show (match pd (f x), pds (xs.map f) with | some d, some ds => some (d :: ds) | _, _ => none) = _
    rw [h, ih] <;> rfl
end Dt

set_option Elab.async false
set_option linter.all false
set_option maxRecDepth 100000
set_option maxHeartbeats 4000000
/-! DatZL: comprehensions over the values and the pairs of a dict of the store -/
namespace Dt
open PySem PySem.Spec PyProof.Rows L2 My He SX
section
variable {G : Cf} {X : Cx} {en : En} {W W1 : Wd} {σ : L2.St} {H H1 : Hp} {ρ : List Sl} {S S1 : Sto} {pins : List (Addr × Obj)} {s s1 : Shared} {e a b c o tg iter : Expr} {pos p apos cpos : Pos} {x : Str}
theorem RepK.getD {K : PySem.W.Frag} {W : Wd} : ∀ {kvs : List (Key × D)} {vs : List (Key × V)} {j : Nat} {k : Key} {v : V}, RepK K W kvs vs → vs[j]? = some (k, v) → ∃ d, kvs[j]? = some (k, d) ∧ Rep K W d v
  | _, _, j, _, _, .nil, e => by simp at e
  | _, _, 0, _, _, .cons h t, e => by
    simp only [List.getElem?_cons_zero, Option.some.injEq, Prod.mk.injEq] at e
    obtain ⟨rfl, rfl⟩ := e
    exact ⟨_, rfl, h⟩
  | _, _, j + 1, _, _, .cons h t, e => by
    obtain ⟨d, h1, h2⟩ := RepK.getD (j := j) t (by simpa using e)
    exact ⟨d, by simpa using h1, h2⟩
theorem WkC.vals {K : PySem.W.Frag} {i : Nat} {od : Obj} {kvs : List (Key × D)} {vs : List (Key × V)} (hi : i < W.n) : WkC K W H (Itd (W.m i) od vs) (kvs.map fun p => p.2) (fun S' => S'[i]? = some (.lck (.frz od (.dK vs)) kvs)) where
  go := fun j W' H' S' g ho c hj => by
    obtain ⟨e, r⟩ := lck_at ho c
    rw [g.le.m i hi] at e
    rw [List.length_map, r.len2] at hj
    exact ⟨e, hj⟩
  yl := fun j W' H' S' x H2 g ho c hj ⟨e, k, ek⟩ => by
    subst e
    obtain ⟨_, r⟩ := lck_at ho c
    obtain ⟨d, e2, rd⟩ := r.getD ek
    exact ⟨d, W', by rw [List.getElem?_map, e2] <;> rfl, ho, .refl, rd⟩
  st := fun j W' H' S' g ho c hj => by
    obtain ⟨e, r⟩ := lck_at ho c
    rw [g.le.m i hi] at e
    rw [List.length_map, r.len2] at hj
    exact ⟨e, hj⟩
theorem WkC.items {K : PySem.W.Frag} {i : Nat} {od : Obj} {kvs : List (Key × D)} {vs : List (Key × V)} (hi : i < W.n) : WkC K W H (Iti (W.m i) od vs) (kvs.map fun p => D.tup [kD p.1, p.2]) (fun S' => S'[i]? = some (.lck (.frz od (.dK vs)) kvs)) where
  go := fun j W' H' S' g ho c hj => by
    obtain ⟨e, r⟩ := lck_at ho c
    rw [g.le.m i hi] at e
    rw [List.length_map, r.len2] at hj
    exact ⟨e, hj⟩
  yl := fun j W' H' S' x H2 g ho c hj ⟨T, k, v, ek, ex, hT, eH⟩ => by
    subst ex eH
    obtain ⟨_, r⟩ := lck_at ho c
    obtain ⟨d, e2, rd⟩ := r.getD ek
    obtain ⟨W2, S2, h2, g2, rt, eS⟩ : ∃ W2 S2, Ho K W2 (upd H' T (.tup [kV k, v])) S2 ∧ Go W' H' W2 (upd H' T (.tup [kV k, v])) ∧ Rep K W2 (.tup [kD k, d]) (.ref T) ∧ S2 = S' := by
      obtain ⟨W2, o, S2, h2, g2, ro, q⟩ := nxT (en := ⟨W', H', T, none⟩) (Q := fun o S2 => o = .v (.tup [kD k, d]) ∧ S2 = S') ho (Reps.cons (rep_kD k) (.cons rd .nil)) ⟨rfl, rfl⟩ T hT
      obtain ⟨rfl, rfl⟩ := q
      exact ⟨W2, _, h2, g2, ro, rfl⟩
    subst eS
    exact ⟨_, W2, by rw [List.getElem?_map, e2] <;> rfl, h2, g2, rt⟩
  st := fun j W' H' S' g ho c hj => by
    obtain ⟨e, r⟩ := lck_at ho c
    rw [g.le.m i hi] at e
    rw [List.length_map, r.len2] at hj
    exact ⟨e, hj⟩
abbrev iValD (ti : RE) : RL := fun ρ S E Q => ti ρ S E fun o S1 => ∃ n kvs, o = .v (.ptr n) ∧ S1[n]? = some (.dct kvs) ∧ Q n kvs (kvs.map fun p => p.2) S1
abbrev iItmD (ti : RE) : RL := fun ρ S E Q => ti ρ S E fun o S1 => ∃ n kvs, o = .v (.ptr n) ∧ S1[n]? = some (.dct kvs) ∧ Q n kvs (kvs.map fun p => D.tup [kD p.1, p.2]) S1
theorem dil_vals {ti : RE} (he : DE G e ti) (hbase : ∀ env, attributeBase e "values" env (eval e env) = eval e env := by intro _; rfl) (hline : (apos.endLine == cpos.line) = true := by rfl) : DIL G tg (.Call (.Attribute e "values" apos) [] [] cpos) (iValD ti) := by
  refine ⟨fun {X en W σ H ρ S E pins s Q} z q => ?_⟩
  refine (pi_values (X := X) (tg := tg) (pe_lk (pcan X e)) (hbase _) hline).run pins s σ H _ z.I fun pins' s' I => ?_
  refine he.at (z.re I) q fun v s2 x' H1 W1 o S1 z1 g1 r1 ro ⟨n, kvs, eo, en, q1⟩ => ?_
  subst eo
  obtain ⟨vs, e1, rk⟩ := z1.rs.ho.cel n _ en
  have hn := cell_lt z1.rs.ho en
  have ex : x' = .ref (W1.m n) := by
    cases ro
    rfl
  subst ex
  refine ⟨_, H1, z1.I, r1, W1.m n, _, rfl, e1, trivial, fun od nf => ⟨W1.m n, od, vs, rfl, upd_same, W1, S1, n, kvs, vs, od, _, z1.rs.ho.put hn ⟨upd_same, od, vs, rfl, rk⟩, g1.trans (Go.put hn) (z1.rs.ho.put (c := .lck (.frz od (.dK vs)) kvs) hn ⟨upd_same, od, vs, rfl, rk⟩), .vals hn, hn, nf, q1⟩⟩
theorem dil_items {ti : RE} {elts : List Expr} {kk : Nat} {tpos : Pos} (he : DE G e ti) (hbase : ∀ env, attributeBase e "items" env (eval e env) = eval e env := by intro _; rfl) (hline : (apos.endLine == cpos.line) = true := by rfl) : DIL G (.Tuple elts kk tpos) (.Call (.Attribute e "items" apos) [] [] cpos) (iItmD ti) := by
  refine ⟨fun {X en W σ H ρ S E pins s Q} z q => ?_⟩
  refine (pi_items (X := X) (pe_lk (pcan X e)) (hbase _) hline).run pins s σ H _ z.I fun pins' s' I => ?_
  refine he.at (z.re I) q fun v s2 x' H1 W1 o S1 z1 g1 r1 ro ⟨n, kvs, eo, en, q1⟩ => ?_
  subst eo
  obtain ⟨vs, e1, rk⟩ := z1.rs.ho.cel n _ en
  have hn := cell_lt z1.rs.ho en
  have ex : x' = .ref (W1.m n) := by
    cases ro
    rfl
  subst ex
  refine ⟨_, H1, z1.I, r1, W1.m n, _, rfl, e1, trivial, fun od nf => ⟨W1.m n, od, vs, rfl, upd_same, W1, S1, n, kvs, vs, od, _, z1.rs.ho.put hn ⟨upd_same, od, vs, rfl, rk⟩, g1.trans (Go.put hn) (z1.rs.ho.put (c := .lck (.frz od (.dK vs)) kvs) hn ⟨upd_same, od, vs, rfl, rk⟩), .items hn, hn, nf, q1⟩⟩
end
end Dt

set_option Elab.async false
set_option linter.all false
set_option maxRecDepth 100000
set_option maxHeartbeats 4000000
/-! DatZM: walks over lists of the store (that stay as they are while the walk runs) -/
namespace Dt
open PySem PySem.Spec PyProof.Rows L2 My He SX
/-- J walks xs from here on, while C0 holds of the store -/
structure WkS (K : PySem.W.Frag) (W : Wd) (J : It) (xs : List D) (C0 : Sto → Prop) : Prop where
  go : ∀ (i : Nat) W' H' S', W.Le W' → Ho K W' H' S' → C0 S' → i < xs.length → J.go i H'
  yl : ∀ (i : Nat) W' H' S' x H2, W.Le W' → Ho K W' H' S' → C0 S' → i < xs.length → J.yld i H' x H2 → ∃ d W2, xs[i]? = some d ∧ Ho K W2 H2 S' ∧ Go W' H' W2 H2 ∧ Rep K W2 d x
  st : ∀ (i : Nat) W' H' S', W.Le W' → Ho K W' H' S' → C0 S' → xs.length ≤ i → J.stop i H'
section
variable {G : Cf} {X : Cx} {en : En} {W W1 : Wd} {σ : L2.St} {H H1 : Hp} {ρ : List Sl} {S S1 : Sto} {pins : List (Addr × Obj)} {s s1 : Shared} {e a b c o tg iter : Expr} {pos p apos cpos : Pos} {x : Str}
theorem lst_at {K : PySem.W.Frag} {i : Nat} {xs : List D} (ho : Ho K W H S) (h : S[i]? = some (.lst xs)) : ∃ vs, H (W.m i) = some (.lst vs) ∧ Reps K W xs vs := ho.cel i _ h
theorem WkS.lst {K : PySem.W.Frag} {n : Nat} {xs : List D} (hn : n < W.n) : WkS K W (Itl K (W.m n)) xs (fun S' => S'[n]? = some (.lst xs)) where
  go := fun i W' H' S' l ho c hi => by
    obtain ⟨vs, e, r⟩ := lst_at ho c
    rw [l.m n hn] at e
    have hv : i < vs.length := by rw [r.len]; exact hi
    exact ⟨vs, vs[i], .inl (.inl e), List.getElem?_eq_getElem hv⟩
  yl := fun i W' H' S' x H2 l ho c hi y => by
    obtain ⟨e, y⟩ := y
    subst e
    obtain ⟨vs, e, r⟩ := lst_at ho c
    rw [l.m n hn] at e
    obtain ⟨d, e, rd⟩ := r.get (y vs (.inl (.inl e)))
    exact ⟨d, W', e, ho, .refl, rd⟩
  st := fun i W' H' S' l ho c hi => by
    obtain ⟨vs, e, r⟩ := lst_at ho c
    rw [l.m n hn] at e
    exact ⟨vs, .inl (.inl e), by rw [r.len]; exact hi⟩
abbrev RSL := List Sl → Sto → XD → (Nat → List D → Sto → Prop) → Prop
/-- an iteration over a list of the store -/
structure DIS (G : Cf) (tg iter : Expr) (t : RSL) : Prop where
  run : ∀ {X en W σ H ρ S E pins s} {Q : Nat → List D → Sto → Prop}, At G X en W σ H ρ S E pins s → t ρ S E Q →
    wpAny (model X.prog X.w) X.A (eval iter X.env) (fun v s1 => wpAny (model X.prog X.w) X.A (pyIter v) (PIE X pins σ tg fun J H' => ∃ W' S1 p xs, Ho G.B.K W' H' S1 ∧ Go W H W' H' ∧
      WkS G.B.K W' J xs (fun S' => S'[p]? = some (.lst xs)) ∧ Q p xs S1) X.xe s1) X.xe s
/-- the turns that are left, C0 at each -/
def LoopC (C0 : Sto → Prop) (g : RG) (tb : RS) (D : DEnds) : List Dt.D → List Sl → Sto → Prop
  | [], ρ, S => C0 S ∧ D.nx ρ S
  | x :: xs, ρ, S => C0 S ∧ g x ρ S D.ex fun ρ' S' => tb ⟨LoopC C0 g tb D xs, D.rt, D.nx, LoopC C0 g tb D xs, D.ex⟩ ρ' S'
theorem LoopC.now {C0 : Sto → Prop} {g : RG} {tb : RS} {D : DEnds} : ∀ {xs : List Dt.D} {ρ : List Sl} {S : Sto}, LoopC C0 g tb D xs ρ S → C0 S
  | [], _, _, h => h.1
  | _ :: _, _, _, h => h.1
end
end Dt

set_option Elab.async false
set_option linter.all false
set_option maxRecDepth 100000
set_option maxHeartbeats 4000000
/-! DatZN: what repr shows of plain data has signs below 128 only -/
namespace Dt
open PySem PySem.Spec PyProof.Rows L2 My He SX
def Asc (x : Str) : Prop := ∀ c ∈ x.cps.toList, c < 128
theorem asc_app {a b : Str} (h : Asc a) (k : Asc b) : Asc (a ++ b) := fun c hc => (mem_cps_append.mp hc).elim (h c) (k c)
theorem asc_of {s : String} (h : ((Str.ofString s).cps.toList.all fun c => decide (c < 128)) = true) : Asc (Str.ofString s) := fun c hc => of_decide_eq_true (List.all_eq_true.mp h c hc)
theorem asc_from : ∀ (ts : List Str) (k : Nat) (acc : Str), Asc acc → (∀ t ∈ ts, Asc t) → Asc (textFrom k acc ts)
  | [], _, _, h, _ => h
  | t :: ts, k, acc, h, ht => asc_from ts (k + 1) _ (asc_app (asc_app h (by
      by_cases z : k > 0
      · rw [if_pos z]
        exact asc_of (by decide)
      · rw [if_neg z]
        exact asc_of (by decide))) (ht t (.head _))) fun u hu => ht u (.tail _ hu)
theorem asc_list {ts : List Str} (h : ∀ t ∈ ts, Asc t) : Asc (listText ts) := asc_app (asc_from ts 0 _ (asc_of (by decide)) h) (asc_of (by decide))
theorem asc_join : ∀ {ts : List Str}, (∀ t ∈ ts, Asc t) → Asc (Str.join ", " ts)
  | [], _ => asc_of (s := "") (by decide)
  | [x], h => h x (.head _)
  | x :: y :: r, h => asc_app (asc_app (h x (.head _)) (asc_of (by decide))) (asc_join fun t ht => h t (.tail _ ht))
theorem asc_tuple {ts : List Str} (h : ∀ t ∈ ts, Asc t) : Asc (tupleText ts) := by
  unfold tupleText
  refine asc_app (asc_app (asc_of (by decide)) (asc_join h)) ?_
  split
  · exact asc_of (by decide)
  · exact asc_of (by decide)
theorem rasc : ∀ c < 128, (Builtin.Str.reprChar 39 c).all (fun c => decide (c < 128)) = true ∧ (Builtin.Str.reprChar 34 c).all (fun c => decide (c < 128)) = true := by decide +kernel
theorem rasc_fold (q : Nat) (hq : ∀ c < 128, (Builtin.Str.reprChar q c).all (fun c => decide (c < 128)) = true) : ∀ (l : List Nat) (acc : Array Nat), (∀ c ∈ l, c < 128) → acc.toList.all (fun c => decide (c < 128)) = true → ((l.foldl (fun out c => out ++ (Builtin.Str.reprChar q c).toArray) acc).toList.all fun c => decide (c < 128)) = true
  | [], acc, _, h => h
  | c :: r, acc, h, k => by
    refine rasc_fold q hq r _ (fun d hd => h d (List.mem_cons_of_mem _ hd)) ?_
    rw [Array.toList_append, List.all_append, k, Bool.true_and]
    exact hq c (h c (List.mem_cons_self ..))
theorem asc_repr {x : Str} (h : Asc x) : Asc (reprText x) := by
  have hq : reprQuote x = 34 ∨ reprQuote x = 39 := by
    unfold reprQuote
    split
    · exact .inl rfl
    · exact .inr rfl
  have key : ((reprText x).cps.toList.all fun c => decide (c < 128)) = true := by
    unfold reprText
    show (Array.push _ _).toList.all _ = true
    rw [Array.toList_push, List.all_append, ← Array.foldl_toList]
    rcases hq with e | e <;> rw [e]
    · rw [rasc_fold 34 (fun c hc => (rasc c hc).2) _ _ h rfl] <;> rfl
    · rw [rasc_fold 39 (fun c hc => (rasc c hc).1) _ _ h rfl] <;> rfl
  exact fun c hc => of_decide_eq_true (List.all_eq_true.mp key c hc)
theorem asc_int (i : Int) : Asc (PyData.shown (.int i)) := fun c hc => by
  have hc : c ∈ (Str.ofString (toString i)).cps.toList := hc
  rw [txt_int] at hc
  have hc : c ∈ intL i := hc
  refine Decidable.byContradiction fun n => ?_
  exact intL_free (i := i) (s := c) (.inr (by omega)) (by omega) hc
mutual
/-- texts of signs below 128 only, no dict -/
def ascP : PyData → Bool
  | .none | .bool _ | .int _ => true
  | .str x => x.cps.toList.all fun c => decide (c < 128)
  | .list xs | .tuple xs => ascPs xs
  | .dict _ => false
def ascPs : List PyData → Bool
  | [] => true
  | x :: xs => ascP x && ascPs xs
end
mutual
theorem asc_shown : ∀ {p : PyData}, ascP p = true → Asc p.shown
  | .none, _ => asc_of (by decide)
  | .bool b, _ => by
    cases b
    · exact asc_of (s := "False") (by decide)
    · exact asc_of (s := "True") (by decide)
  | .int i, _ => asc_int i
  | .str x, h => by
    have h : (x.cps.toList.all fun c => decide (c < 128)) = true := h
    exact asc_repr fun c hc => of_decide_eq_true (List.all_eq_true.mp h c hc)
  | .list xs, h => asc_list (asc_shownAll (show ascPs xs = true from h))
  | .tuple xs, h => asc_tuple (asc_shownAll (show ascPs xs = true from h))
  | .dict _, h => by cases h
theorem asc_shownAll : ∀ {xs : List PyData}, ascPs xs = true → ∀ t ∈ PyData.shownAll xs, Asc t
  | [], _ => fun t ht => by cases ht
  | x :: xs, h => fun t ht => by
    have h : (ascP x && ascPs xs) = true := h
    rw [Bool.and_eq_true] at h
    have ht : t ∈ x.shown :: PyData.shownAll xs := ht
    rcases List.mem_cons.mp ht with e | e
    · rw [e]
      exact asc_shown h.1
    · exact asc_shownAll h.2 t e
end
theorem ascPs_map {α : Type} {f : α → PyData} : ∀ {xs : List α}, (∀ x ∈ xs, ascP (f x) = true) → ascPs (xs.map f) = true
  | [], _ => rfl
  | x :: xs, h => by
    show (ascP (f x) && ascPs (xs.map f)) = true
    rw [h x (.head _), ascPs_map fun y hy => h y (.tail _ hy)] <;> rfl
theorem Asc.lf {x : Str} (h : Asc x) (b : Nat) : PyData.leavesShort b (.str x) = true := by
  show (x.cps.toList.all fun c => decide (c < 16 ^ 8)) = true
  exact List.all_eq_true.mpr fun c hc => decide_eq_true (Nat.lt_trans (h c hc) (by decide))
theorem Asc.ok {x : Str} (h : Asc x) : PyData.strOk x = true := by
  show x.cps.all _ = true
  rw [← Array.all_toList]
  exact List.all_eq_true.mpr fun c hc => decide_eq_true (Nat.lt_trans (h c hc) (by decide))
/-- a text of signs below 128 -/
theorem Asc.fine {x : Str} (h : Asc x) {n w b : Nat} (hw : x.length ≤ w) : Fine n w b (.str x) := fp_str h.ok hw
theorem Fine.len {n w b : Nat} {p : PyData} (h : Fine n w b p) (hb : 8 ≤ b) : p.shown.length ≤ (b + 2) * w + b := by
  refine Nat.le_trans (PyData.shown_le b hb p h.lf) ?_
  have := Nat.mul_le_mul_left (b + 2) h.wt
  omega
/-- what is shown of it, as a text again -/
theorem Fine.shown {n w b u m c : Nat} {p : PyData} (h : Fine n w b p) (a : ascP p = true) (hb : 8 ≤ b) (hu : (b + 2) * w + b ≤ u) : Fine m u c (.str p.shown) := (asc_shown a).fine (Nat.le_trans (h.len hb) hu)
end Dt

set_option Elab.async false
set_option linter.all false
set_option maxRecDepth 100000
set_option maxHeartbeats 4000000
/-! DatZO: del d[k]; what a locked dict of the store tells; a star parameter with a keyword behind it -/
namespace Dt
open PySem PySem.Spec PyProof.Rows L2 My He SX
section
variable {G : Cf} {X : Cx} {en : En} {W W1 : Wd} {σ : L2.St} {H H1 : Hp} {ρ : List Sl} {S S1 : Sto} {E : XD} {pins : List (Addr × Obj)} {s s1 : Shared} {e a b c o : Expr} {es : List Expr} {t ta tb tc te to ti : RE} {tA tK : RA} {pos p apos pos' tpos : Pos} {x m : Str}
def dDel (ta tb : RE) : RS := fun D ρ S => ta ρ S D.ex fun x S1 => tb ρ S1 D.ex fun y S2 => ∃ n xs i, x = .v (.ptr n) ∧ y = .v (kD i) ∧ S2[n]? = some (.dct xs) ∧ (valD xs i).isSome = true ∧ D.nx ρ (S2.set n (.dct (dropKD xs i)))
theorem ds_del (ha : DE G a ta) (hb : DE G b tb) : DS G (.Delete [.Subscript a b tpos] pos) (dDel ta tb) := by
  refine ⟨fun {X en W σ H ρ S pins s D} z q => ?_⟩
  refine wpAny_Delete (wpAny_deleteEach_cons (wpAny_delete_Subscript (ha.at z q fun ov s1 x' H1 W1 o1 S1 z1 g1 r1 ro q1 => hb.at z1 q1 fun iv s2 y' H2 W2 o2 S2 z2 g2 r2 ro2 ⟨n, xs, i, ex, ey, en', hs, q2⟩ => ?_)))
  subst ex ey
  cases ro
  obtain rfl := rep_key ro2
  obtain ⟨vs, e1, rr⟩ := z2.rs.ho.cel n _ en'
  have hn := cell_lt z2.rs.ho en'
  have e2 : W2.m n = W1.m n := g2.le.m n (by assumption)
  rw [e2] at e1
  obtain rfl : ov = Value.ref (W1.m n) := r1
  have hv : (valV vs i).isSome = true := by
    rcases rr.val i with ⟨v1, v2⟩ | ⟨d, w, v1, v2, _⟩
    · rw [v1] at hs
      cases hs
    · rw [v2] <;> rfl
  have hp := z2.rs.ho.put (o := .dK (dropK vs i)) (c := .dct (dropKD xs i)) hn (by rw [e2]; exact ⟨_, upd_same, rr.drop i⟩)
  have gp := Go.put (W := W2) (H := H2) (o := .dK (dropK vs i)) hn
  rw [e2] at hp gp
  exact d_delItem z2.I e1 r2 hv fun s3 I3 => wpAny_deleteEach_nil ⟨σ, _, I3, W2, ρ, _, z2.rs.after hp gp, g1.le.trans g2.le, q2⟩
theorem q_del {nx bk ct : List Sl → Sto → Prop} {rt : D → List Sl → Sto → Prop} {ex : XD} (h : ta ρ S ex fun x S1 => tb ρ S1 ex fun y S2 => ∃ n xs i, x = .v (.ptr n) ∧ y = .v (kD i) ∧ S2[n]? = some (.dct xs) ∧ (valD xs i).isSome = true ∧ nx ρ (S2.set n (.dct (dropKD xs i)))) : dDel ta tb ⟨nx, rt, bk, ct, ex⟩ ρ S := h
end
/-! locked dicts -/
section
variable {B : Bs} {k n : Nat} {S : Sto} {Ex : XS} {Q : QO} {i : Key}
end
/-! def f(a, .., *v, k=..), k given -/
section
variable {B : Bs} {x qual : Str} {params : Arguments} {body : List Stmt} {scope : Scope} {dvs : List V} {kws : List (Str × V)} {f : Addr} {fd : FuncData} {N ps ks : List Str} {m n : Nat}
end
end Dt

set_option Elab.async false
set_option linter.all false
set_option maxRecDepth 100000
set_option maxHeartbeats 4000000
/-! DatZP: x is True, x is not True of values of any kind -/
namespace Dt
open PySem PySem.Spec PyProof.Rows L2 My He SX
theorem op_isNotBa {X : Cx} : OpR X (compareOp .IsNot) (fun x y H Q => ∃ b, y = .bl b ∧ Q (.bl (!decide (x = .bl b))) H) := by
  intro pins s σ H x y v u Q I rx ry h
  obtain ⟨b, rfl, q⟩ := h
  cases (show u = Value.bool b from ry)
  by_cases c : x = .bl b
  · subst c
    cases (show v = Value.bool b from rx)
    exact wpAny_isNot_self rfl ⟨.bl false, H, I, rfl, by simpa using q⟩
  · have nv : v ≠ Value.bool b := fun e => c (by
      subst e
      cases x <;> first
        | (cases rx; rfl)
        | (cases rx; done)
        | (obtain ⟨t, e⟩ := rx; cases e))
    refine wpAny_isNot_other ?_ nv ⟨.bl true, H, I, rfl, by simpa [c] using q⟩
    cases x <;> first
      | (cases rx; rfl)
      | (obtain ⟨t, rfl⟩ := rx; rfl)
def isTF (d : D) (b : Bool) : Bool := match d with
  | .bl a => decide (a = b)
  | _ => false
theorem rep_isTF {K : PySem.W.Frag} {W : Wd} {d : D} {v : V} {b : Bool} (r : Rep K W d v) : decide (v = .bl b) = isTF d b := by
  cases r with
  | bl a => by_cases c : a = b <;> simp [isTF, c]
  | _ => exact decide_eq_false (fun z => by cases z)
section
variable {B : Bs} {k : Nat} {S : Sto} {Ex : XS} {Q : QO} {d : D} {b : Bool}
theorem s_isNotBa (q : Q (.v (.bl (!isTF d b))) S) : sem2 B k (compareOp .IsNot) (.v d) (.v (.bl b)) S Ex Q := lift2 (fun _ => op_isNotBa) fun en W H x' y' ho rx ry => by
  cases ry
  refine ⟨b, rfl, ?_⟩
  rw [rep_isTF rx]
  exact nx ho (.bl _) q
end
end Dt

set_option Elab.async false
set_option linter.all false
set_option maxRecDepth 100000
set_option maxHeartbeats 4000000
/-! DatZQ: for, inside of a generator -/
namespace PySem
open Sem (wp)
section
variable {prog : Program} {w : World} {A : Around} {R : GenEnd} {Y : Protocol} {n : Nat} {s₀ : Shared} {c : Code} {fs : List Frame} {s : Shared} {env : Env}
  {K : Flow → Sem Fin} {H : Value → Sem Fin} {gd : Bool → Bool} {lv : List Value → List Value}
theorem seg_For {tg iter : Expr} {body orelse : List Stmt} {pos : Pos} (hs : ∀ x, foldedSetIterable iter env x = pure x)
    (h : wpAny (model prog w) (A.over c fs) (eval iter env) (fun x s1 => wpAny (model prog w) (A.over c fs) (pyIter x) (fun it s2 => ∀ p, Seg (model prog w) A R Y n s₀ (.forLoop tg it body orelse env) ((model prog w).den (.forLoop tg it body orelse env))
      (.ret (fun r => ((match r with | .ok f => (.pure f : Sem Flow) | .error e => .raise e).onRaise fun (x : Value) => do
        if (← field x 1) == Value.none then unsupported "frame.own-activation:exception-without-traceback"
        setFlight x env.frame).wrap K H gd lv) none (gd false) (lv []) c p [] :: fs) s2) (fun x s' => Seg (model prog w) A R Y n s₀ c (H x) fs s') s1) (fun x s' => Seg (model prog w) A R Y n s₀ c (H x) fs s') s) :
    Seg (model prog w) A R Y n s₀ c ((exec (.For tg iter body orelse pos) env).wrap K H gd lv) fs s := by
  rw [exec_For]
  refine seg_bind_wrap (wpAny_standAt ?_)
  refine seg_bind_wrap (wpAny_mono h (fun x s1 h1 => ?_) fun _ _ h => h)
  refine seg_bind_wrap (wpAny_of_eq (hs x) ?_)
  refine seg_bind_wrap (wpAny_standAt ?_)
  refine seg_bind_wrap (wpAny_holding (wpAny_mono h1 (fun it s2 h2 => ?_) fun _ _ h => h))
  exact seg_call h2

theorem seg_forLoop {tg : Expr} {it : Value} {body orelse : List Stmt}
    (h : wpAny (model prog w) (A.over (.forLoop tg it body orelse env) fs) (pyNext it) (fun r s1 => match r with
        | none => Seg (model prog w) A R Y n s₀ (.forLoop tg it body orelse env) (.pure (.again (.block orelse env))) fs s1
        | some v => wpAny (model prog w) (A.over (.forLoop tg it body orelse env) fs) (letOwnedTupleGo tg it v) (fun _ s2 => wpAny (model prog w) (A.over (.forLoop tg it body orelse env) fs) (assign tg env v) (fun _ s3 =>
          Seg (model prog w) A R Y n s₀ (.forLoop tg it body orelse env) ((execs body env).wrap (fun f => match f with
            | .next | .cont => .pure (.again (.forLoop tg it body orelse env))
            | .brk => .pure (.done .next)
            | .ret v => .pure (.done (.ret v))) (fun e => (do noteFrame e env; theTreesLotGoes e : Sem Unit).wrap (fun _ => .raise e) .raise id id) id id) fs s3)
          (fun x s' => Seg (model prog w) A R Y n s₀ (.forLoop tg it body orelse env) ((do noteFrame x env; theTreesLotGoes x : Sem Unit).wrap (fun _ => .raise x) .raise id id) fs s') s2)
          (fun x s' => Seg (model prog w) A R Y n s₀ (.forLoop tg it body orelse env) ((do noteFrame x env; theTreesLotGoes x : Sem Unit).wrap (fun _ => .raise x) .raise id id) fs s') s1)
      (fun x s' => Seg (model prog w) A R Y n s₀ (.forLoop tg it body orelse env) ((do noteFrame x env; theTreesLotGoes x : Sem Unit).wrap (fun _ => .raise x) .raise id id) fs s') s) :
    Seg (model prog w) A R Y n s₀ (.forLoop tg it body orelse env) ((model prog w).den (.forLoop tg it body orelse env)) fs s := by
  have ex : ∀ (x : Value) (s' : Shared), Seg (model prog w) A R Y n s₀ (.forLoop tg it body orelse env) ((do noteFrame x env; theTreesLotGoes x : Sem Unit).wrap (fun _ => .raise x) .raise id id) fs s' →
      Seg (model prog w) A R Y n s₀ (.forLoop tg it body orelse env) ((do noteFrame x env; theTreesLotGoes x : Sem Unit).bind fun _ => .raise x) fs s' := fun x s' hx => by
    rw [Sem.bind_eq_wrap]; exact hx
  show Seg _ A R Y n s₀ _ ((forTurn tg it body orelse env).onRaise (fun x => do noteFrame x env; theTreesLotGoes x)) fs s
  unfold forTurn
  rw [Sem.onRaise_eq_wrap]
  refine seg_bind_wrap (wpAny_standAt ?_)
  refine seg_bind_wrap (wpAny_onRaise (wpAny_mono h (fun r s1 h1 => ?_) fun x s' hx => wpAny_standAt (ex x s' hx)))
  cases r with
  | none => exact h1
  | some v =>
    refine seg_bind_wrap (wpAny_mono h1 (fun _ s2 h2 => ?_) fun x s' hx => ex x s' hx)
    refine seg_bind_wrap (wpAny_mono h2 (fun _ s3 h3 => ?_) fun x s' hx => ex x s' hx)
    show Seg _ A R Y n s₀ _ (Sem.wrap _ _ _ _ (execs body env >>= _)) fs s3
    rw [Sem.bind_eq_wrap', Sem.wrap_wrap]
    rw [Sem.wrap_congr (execs body env) _ _ (K' := fun f => match f with
            | .next | .cont => .pure (.again (.forLoop tg it body orelse env))
            | .brk => .pure (.done .next)
            | .ret v => .pure (.done (.ret v))) (H' := (fun e => (do noteFrame e env; theTreesLotGoes e : Sem Unit).wrap (fun _ => .raise e) .raise id id))
        (fun f => by cases f <;> rfl)
        (fun e => by first | exact Sem.bind_eq_wrap _ _ | (show (do noteFrame e env; theTreesLotGoes e : Sem Unit).bind (fun _ => .raise e) = _; rw [Sem.bind_eq_wrap]))]
    exact h3
theorem seg_block0 (h : Seg (model prog w) A R Y n s₀ (.block [] env) (.pure (.done .next)) fs s) : Seg (model prog w) A R Y n s₀ (.block [] env) ((model prog w).den (.block [] env)) fs s := h
end
end PySem
namespace L2
open PySem PySem.Spec PyProof.Rows GenW
section
variable {X : Cx}
def tGFor (wi : TI) (g : TG) (tb : TGn) : TGn := fun D ys σ H => wi σ H fun J H1 => ∃ W : Nat → Nat → List V → St → Hp → Prop, (∃ m, W 0 m ys σ H1) ∧ ∀ i m ys σ H, W i m ys σ H →
  (J.stop i H ∧ D.nx ys σ H) ∨ (J.go i H ∧ ∃ N : List V → St → Hp → Prop, (∀ ys' σ' H', N ys' σ' H' → ∃ m', m' < m ∧ W (i + 1) m' ys' σ' H') ∧ ∀ x H', J.yld i H x H' → g x σ H' fun σ2 H2 => tb { D with nx := N, ct := N, bk := D.nx } ys σ2 H2)
theorem gs_for {tg iter : Expr} {body : List Stmt} {wi : TI} {g : TG} {tb : TGn} {pos : Pos} (hp : PassesOwn (model X.prog X.w) X.A X.env X.xe) (hc : X.calm = true) (hi : PI X tg iter wi) (hg : PG X tg g) (hb : GSs X body tb)
    (hs : ∀ x, foldedSetIterable iter X.env x = pure x := by intro _; rfl) : GS X (.For tg iter body [] pos) (tGFor wi g tb) := by
  refine ⟨fun A S ip R n ys s₀ c fs K J gd lv s σ H D gc hn k hI ht => ?_⟩
  obtain ⟨acc0, cc0, r0, I0⟩ := hI
  refine seg_For hs ?_
  rw [gc.over]
  refine wpAny_mono (hi.run _ s σ H _ I0 ht) (fun v s1 h1 => wpAny_mono h1 (fun itv s2 h2 => ?_) fun x s' hx => k.exc n s₀ x s' hx) fun x s' hx => k.exc n s₀ x s' hx
  obtain ⟨it, fp, tn, J', H2, e, I2, T, st2, f2, W, ⟨m0, w0⟩, turn⟩ := h2
  subst e
  intro p
  have gl := fun (kk : Result → Sem PySem.Fin) => gc_loop (k := kk) (c' := .forLoop tg (.ref it) body [] X.env) (l := lv []) (kp := []) (p := p) gc rfl rfl
  have hS : ∀ b ∈ fp, b ≠ S := fun b hb z => (f2 b hb).2.2.2.2.2 (S, lstObj acc0 cc0) (List.mem_append_right _ List.mem_cons_self) z.symm
  have stat : ∀ {H' : Hp} {acc : Array Value} {cc : Nat}, (∀ b ∈ fp, H' b = none) → ∀ b ∈ fp, FpOk X ((S, lstObj acc cc) :: ip) H' b := fun {H' acc cc} hn b hb => by
    obtain ⟨_, a1, a2, a3, a4, a5⟩ := f2 b hb
    refine ⟨hn b hb, a1, a2, a3, a4, fun p hp => ?_⟩
    rcases List.mem_append.mp hp with hp | hp
    · exact a5 p (List.mem_append_left _ hp)
    · rcases List.mem_cons.mp hp with hp | hp
      · rw [hp]; exact (hS b hb).symm
      · exact a5 p (List.mem_append_right _ (List.mem_cons_of_mem _ hp))
  have loop : ∀ (m i n : Nat) (ys : List V) (s₀ s : Shared) (σ : St) (H : Hp), n + ys.length = sizeLine → W i m ys σ H → GI X S ip ys σ H s → tn i s.heap → (∀ b ∈ fp, H b = none) →
      Seg (model X.prog X.w) A R (GY X S) n s₀ (.forLoop tg (.ref it) body [] X.env) ((model X.prog X.w).den (.forLoop tg (.ref it) body [] X.env))
        (.ret (fun r => ((match r with | .ok f => (.pure f : Sem Flow) | .error e => .raise e).onRaise (cameBack X.env)).wrap K J gd lv) none (gd false) (lv []) c p [] :: fs) s := by
    intro m
    induction m using Nat.strongRecOn with
    | ind m ih =>
      intro i n ys s₀ s3 σ3 H3 hn w3 hI3 st3 fr3
      have ee : ∀ (n : Nat) (s₀ : Shared) (x : Value) (s' : Shared), X.xe x s' → Seg (model X.prog X.w) A R (GY X S) n s₀ (.forLoop tg (.ref it) body [] X.env)
          ((do noteFrame x X.env; theTreesLotGoes x : Sem Unit).wrap (fun _ => .raise x) .raise id id)
          (.ret (fun r => ((match r with | .ok f => (.pure f : Sem Flow) | .error e => .raise e).onRaise (cameBack X.env)).wrap K J gd lv) none (gd false) (lv []) c p [] :: fs) s' := fun n s₀ x s' hx => by
        refine seg_wrap ?_
        rw [(gl _).over]
        refine wpAny_bind (wpAny_mono (hp x s' hx) (fun _ s'' hcb => wpAny_theTreesLotGoes ?_) fun y s'' hcb => ?_)
        · exact seg_leaf (.error x) (seg_cameBack gc k hcb)
        · exact seg_leaf (.error y) (seg_cameBack gc k hcb)
      refine seg_forLoop ?_
      rw [(gl _).over]
      obtain ⟨acc, cc, r, I3⟩ := hI3
      rcases turn i m ys σ3 H3 w3 with ⟨stop, qn⟩ | ⟨go, N, hN, step⟩
      · refine wpAny_mono (T.done X rfl rfl rfl hc i _ s3 σ3 H3 X.xe I3 (stat fr3) st3 stop) (fun r' s4 hr => ?_) fun x s' hx => ee n s₀ x s' hx
        obtain ⟨hr, I4⟩ := hr
        subst hr
        refine seg_again rfl (seg_block0 ?_)
        exact seg_leaf (.ok .next) (k.ok n ys s₀ s4 .next hn ⟨σ3, H3, ⟨acc, cc, r, I4⟩, qn⟩)
      · refine wpAny_mono (T.item X rfl rfl rfl hc i _ s3 σ3 H3 X.xe I3 (stat fr3) st3 go) (fun r' s4 hr => ?_) fun x s' hx => ee n s₀ x s' hx
        obtain ⟨u, hr, h4⟩ := hr
        subst hr
        refine wpAny_mono h4 (fun _ s5 h5 => ?_) fun x s' hx => ee n s₀ x s' hx
        obtain ⟨x, H5, I5, r5, y5, st5, fr5⟩ := h5
        have I5' := I5.pinned (stat fr5) (T.obj _ _ st5)
        refine wpAny_mono (hg.run _ s5 σ3 H5 x u _ I5' r5 (step x H5 y5)) (fun _ s6 h6 => ?_) fun x s' hx => ee n s₀ x s' hx
        obtain ⟨σ6, H6, I6, q6⟩ := h6
        have ipS : ∀ q ∈ ip ++ pinsAt fp s5.heap, q.1 ≠ S := fun q hq => (List.mem_append.mp hq).elim (gc.ip q) fun z => hS _ (of_pinsAt z).1
        have gl' : ∀ (kk : Result → Sem PySem.Fin), GC X S (ip ++ pinsAt fp s5.heap) A (.forLoop tg (.ref it) body [] X.env) (.ret kk none (gd false) (lv []) c p [] :: fs) id := fun kk => { gl kk with ip := ipS }
        have again : ∀ {ys' : List V} {σ7 : St} {H7 : Hp} {s7 : Shared} {n' : Nat} {s₀' : Shared}, n' + ys'.length = sizeLine → GI X S (ip ++ pinsAt fp s5.heap) ys' σ7 H7 s7 → N ys' σ7 H7 → Seg (model X.prog X.w) A R (GY X S) n' s₀' (.forLoop tg (.ref it) body [] X.env) (.pure (.again (.forLoop tg (.ref it) body [] X.env)))
            (.ret (fun r => ((match r with | .ok f => (.pure f : Sem Flow) | .error e => .raise e).onRaise (cameBack X.env)).wrap K J gd lv) none (gd false) (lv []) c p [] :: fs) s7 := fun {ys' σ7 H7 s7 n' s₀'} hn' I7 n7 => by
          obtain ⟨m', hm, w7⟩ := hN ys' σ7 H7 n7
          obtain ⟨acc7, cc7, r7, I7⟩ := I7
          have pn : ∀ b o, b ∈ fp → s5.heap.get? b = some o → s7.heap.get? b = some o ∧ H7 b = none := fun b o hb e => by
            have := I7.pin (b, o) (List.mem_append_right _ (List.mem_cons_of_mem _ (List.mem_append_right _ (mem_pinsAt hb e))))
            exact ⟨this.1, this.2.1⟩
          refine seg_again rfl (ih m' hm (i + 1) n' ys' s₀' s7 σ7 H7 hn' w7 ⟨acc7, cc7, r7, Inv.unpinned (pins := (S, lstObj acc7 cc7) :: ip) I7⟩ (T.keep _ _ _ st5 fun b hb o e => (pn b o hb e).1) fun b hb => ?_)
          obtain ⟨o, e, d⟩ := T.obj _ _ st5 b hb
          exact (pn b o hb e).2
        refine hb.run A S (ip ++ pinsAt fp s5.heap) R n ys s₀ _ _ _ _ id id s6 σ6 H6 { D with nx := N, ct := N, bk := D.nx } (gl' _) hn ⟨fun n' ys' s₀' s7 f hn' hs => ?_, fun n' s₀' x s7 hx => ee n' s₀' x s7 hx⟩ ⟨acc, cc, r, I6⟩ q6
        have un : ∀ {ys' : List V} {σ7 : St} {H7 : Hp}, GI X S (ip ++ pinsAt fp s5.heap) ys' σ7 H7 s7 → GI X S ip ys' σ7 H7 s7 := fun {ys' σ7 H7} ⟨acc7, cc7, r7, I7⟩ => ⟨acc7, cc7, r7, Inv.unpinned (pins := (S, lstObj acc7 cc7) :: ip) I7⟩
        cases f with
        | next => obtain ⟨σ7, H7, I7, n7⟩ := hs; exact again hn' I7 n7
        | cont => obtain ⟨σ7, H7, I7, n7⟩ := hs; exact again hn' I7 n7
        | brk =>
          obtain ⟨σ7, H7, I7, q7⟩ := hs
          exact seg_leaf (.ok .next) (k.ok n' ys' s₀' s7 .next hn' ⟨σ7, H7, un I7, q7⟩)
        | ret v =>
          obtain ⟨x7, σ7, H7, I7, r7, q7⟩ := hs
          exact seg_leaf (.ok (.ret v)) (k.ok n' ys' s₀' s7 (.ret v) hn' ⟨x7, σ7, H7, un I7, r7, q7⟩)
  exact loop m0 0 n ys s₀ s2 σ H2 hn w0 ⟨acc0, cc0, r0, I2⟩ st2 fun b hb => (f2 b hb).1
end
end L2

set_option Elab.async false
set_option linter.all false
set_option maxRecDepth 100000
set_option maxHeartbeats 4000000
/-! DatZR: generators: bodies by readings; list(o.m()) -/
namespace Dt
open PySem PySem.Spec PyProof.Rows L2 My GenW
structure YEnds where
  nx : List D → List Sl → Sto → Prop
  rt : List D → D → List Sl → Sto → Prop
  bk : List D → List Sl → Sto → Prop
  ct : List D → List Sl → Sto → Prop
  ex : XD
abbrev RY := YEnds → List D → List Sl → Sto → Prop
def yends (K : PySem.W.Frag) (en : En) (W : Wd) (D : YEnds) : GEnds where
  nx := fun vs σ' H' => ∃ W' ρ' S' ys, Rs K en W' σ' H' ρ' S' ∧ W.Le W' ∧ Reps K W' ys vs ∧ D.nx ys ρ' S'
  rt := fun vs v H' => ∃ W' σ' ρ' d S' ys, Rs K en W' σ' H' ρ' S' ∧ W.Le W' ∧ Rep K W' d v ∧ Reps K W' ys vs ∧ D.rt ys d ρ' S'
  bk := fun vs σ' H' => ∃ W' ρ' S' ys, Rs K en W' σ' H' ρ' S' ∧ W.Le W' ∧ Reps K W' ys vs ∧ D.bk ys ρ' S'
  ct := fun vs σ' H' => ∃ W' ρ' S' ys, Rs K en W' σ' H' ρ' S' ∧ W.Le W' ∧ Reps K W' ys vs ∧ D.ct ys ρ' S'
structure YImp (D D' : GEnds) : Prop where
  nx : ∀ ys σ H, D.nx ys σ H → D'.nx ys σ H
  rt : ∀ ys v H, D.rt ys v H → D'.rt ys v H
  bk : ∀ ys σ H, D.bk ys σ H → D'.bk ys σ H
  ct : ∀ ys σ H, D.ct ys σ H → D'.ct ys σ H
theorem YImp.up {K : PySem.W.Frag} {en : En} {W W2 : Wd} {D : YEnds} {D' : GEnds} (l : W.Le W2) (h : YImp (yends K en W D) D') : YImp (yends K en W2 D) D' where
  nx := fun ys σ H ⟨W', ρ', S', y, r, l2, q⟩ => h.nx _ _ _ ⟨W', ρ', S', y, r, l.trans l2, q⟩
  rt := fun ys v H ⟨W', σ', ρ', d, S', y, r, l2, q⟩ => h.rt _ _ _ ⟨W', σ', ρ', d, S', y, r, l.trans l2, q⟩
  bk := fun ys σ H ⟨W', ρ', S', y, r, l2, q⟩ => h.bk _ _ _ ⟨W', ρ', S', y, r, l.trans l2, q⟩
  ct := fun ys σ H ⟨W', ρ', S', y, r, l2, q⟩ => h.ct _ _ _ ⟨W', ρ', S', y, r, l.trans l2, q⟩
/-- a reading below -/
def tDY (K : PySem.W.Frag) (X : Cx) (en : En) (t : RY) : TGn := fun D' vs σ H => ∃ W ρ S ys D, Rs K en W σ H ρ S ∧ Reps K W ys vs ∧ Takes X (XT K en W D.ex) ∧ t D ys ρ S ∧ YImp (yends K en W D) D'
structure DY (G : Cf) (st : Stmt) (t : RY) : Prop where
  run : ∀ {X en}, Fits G X en → GS X st (tDY G.B.K X en t)
structure DYs (G : Cf) (st : List Stmt) (t : RY) : Prop where
  run : ∀ {X en}, Fits G X en → GSs X st (tDY G.B.K X en t)
theorem gs_imp {X : Cx} {st : Stmt} {t t' : TGn} (h : GS X st t) (i : ∀ D ys σ H, t' D ys σ H → t D ys σ H) : GS X st t' := ⟨fun A S ip R n ys s₀ c fs K J gd lv s σ H D g hn k hI ht => h.run A S ip R n ys s₀ c fs K J gd lv s σ H D g hn k hI (i _ _ _ _ ht)⟩
theorem gss_imp {X : Cx} {st : List Stmt} {t t' : TGn} (h : GSs X st t) (i : ∀ D ys σ H, t' D ys σ H → t D ys σ H) : GSs X st t' := ⟨fun A S ip R n ys s₀ c fs K J gd lv s σ H D g hn k hI ht => h.run A S ip R n ys s₀ c fs K J gd lv s σ H D g hn k hI (i _ _ _ _ ht)⟩
def tSt (X : Cx) (st : Stmt) : TS := fun D σ H => ∀ pins s, Inv X pins σ H s → wpAny (model X.prog X.w) X.A (exec st X.env) (SP X pins D) X.xe s
theorem stcan (X : Cx) (st : Stmt) : PS X st (tSt X st) := ⟨fun pins s σ H D I h => h pins s I⟩
section
variable {G : Cf} {st : Stmt} {rest : List Stmt} {t u : RY} {ts : RS} {e tg iter : Expr} {te : RE} {yp pos : Pos}
def yNil : RY := fun D ys ρ S => D.nx ys ρ S
theorem dys_nil : DYs G [] yNil := ⟨fun {X en} f => gss_imp gss_nil fun D' vs σ H ⟨W, ρ, S, ys, D, r, rp, tk, q, i⟩ => i.nx _ _ _ ⟨W, ρ, S, ys, r, .refl, rp, q⟩⟩
/-- a statement that hands out nothing -/
def yPlain (t : RS) : RY := fun D ys ρ S => t ⟨D.nx ys, D.rt ys, D.bk ys, D.ct ys, D.ex⟩ ρ S
theorem dy_ds (h : DS G st ts) : DY G st (yPlain ts) := by
  refine ⟨fun {X en} f => gs_imp (gs_ps (stcan X st)) fun D' vs σ H ⟨W, ρ, S, ys, D, r, rp, tk, q, i⟩ => ?_⟩
  intro pins s I
  refine thn (h.run (D := ⟨D.nx ys, D.rt ys, D.bk ys, D.ct ys, D.ex⟩) ⟨f, tk, r, I⟩ q) fun fl s1 hs => sp_imp (D := ends G.B.K en W ⟨D.nx ys, D.rt ys, D.bk ys, D.ct ys, D.ex⟩) (fun σ' H' ⟨W', ρ', S', r', l', q'⟩ => ?_) (fun v H' ⟨W', σ', ρ', d, S', r', l', rd, q'⟩ => ?_) (fun σ' H' ⟨W', ρ', S', r', l', q'⟩ => ?_) (fun σ' H' ⟨W', ρ', S', r', l', q'⟩ => ?_) hs
  · exact i.nx _ _ _ ⟨W', ρ', S', ys, r', l', rp.le l', q'⟩
  · exact i.rt _ _ _ ⟨W', σ', ρ', d, S', ys, r', l', rd, rp.le l', q'⟩
  · exact i.bk _ _ _ ⟨W', ρ', S', ys, r', l', rp.le l', q'⟩
  · exact i.ct _ _ _ ⟨W', ρ', S', ys, r', l', rp.le l', q'⟩
def ySeq (t u : RY) : RY := fun D ys ρ S => ∃ ρ', Fz ρ ρ' ∧ t { D with nx := u D } ys ρ' S
theorem dys_cons (a : DY G st t) (b : DYs G rest u) : DYs G (st :: rest) (ySeq t u) := by
  refine ⟨fun {X en} f => gss_imp (gss_cons (a.run f) (b.run f)) fun D' vs σ H ⟨W, ρ, S, ys, D, r, rp, tk, ⟨ρ', fz, q⟩, i⟩ => ?_⟩
  obtain ⟨W1, r1, l1⟩ := r.fz fz
  have i1 := i.up l1
  refine ⟨W1, ρ', S, ys, { D with nx := u D }, r1, rp.le l1, tk_up l1 tk, q, ⟨fun vs' σ' H' ⟨W2, ρ2, S2, y2, r2, l2, rp2, q2⟩ => ?_, i1.rt, i1.bk, i1.ct⟩⟩
  exact ⟨W2, ρ2, S2, y2, D, r2, rp2, tk_up (l1.trans l2) tk, q2, i1.up l2⟩
def yYield (te : RE) : RY := fun D ys ρ S => ys.length < sizeLine ∧ te ρ S D.ex fun o S1 => ∃ d, o = .v d ∧ D.nx (ys ++ [d]) ρ S1
theorem dy_yield (he : DE G e te) (hco : G.sc.isCoroutine = false) : DY G (.Expr (.Yield (some e) yp) pos) (yYield te) := by
  refine ⟨fun {X en} f => ⟨fun A S ip R n ys s₀ c fs K J gd lv s σ H D g hn k hI ht => ?_⟩⟩
  have hi : interactive X.env = false := let ⟨_, _, _, I⟩ := hI; I.quiet
  refine (gs_yield (yp := yp) (pos := pos) (pcan X e) (by rw [f.sc]; exact hco) hi).run A S ip R n ys s₀ c fs K J gd lv s σ H D g hn k hI ?_
  obtain ⟨W, ρ, T, zs, D1, r, rp, tk, ⟨hl, q⟩, i⟩ := ht
  refine ⟨by rw [rp.len]; exact hl, fun pins s I => ?_⟩
  refine thn (he.run ⟨f, tk, r, I⟩ q) fun u s1 => ep_mono fun v H1 ⟨W1, o, S1, h1, g1, ro, d, eo, q1⟩ => ?_
  subst eo
  exact i.nx _ _ _ ⟨W1, ρ, S1, zs ++ [d], r.after h1 g1, g1.le, (rp.le g1.le).app (.cons ro .nil), q1⟩
/-- the turns that are left -/
def LoopY (g : RG) (tb : RY) (D : YEnds) : List Dt.D → List Dt.D → List Sl → Sto → Prop
  | [], ys, ρ, S => D.nx ys ρ S
  | x :: xs, ys, ρ, S => g x ρ S D.ex fun ρ' S' => tb ⟨LoopY g tb D xs, D.rt, D.nx, LoopY g tb D xs, D.ex⟩ ys ρ' S'
def yFor (ti : RI) (g : RG) (tb : RY) : RY := fun D ys ρ S => ti ρ S D.ex fun xs S1 => LoopY g tb D xs ys ρ S1
theorem dy_for {body : List Stmt} {ti : RI} {g : RG} {tb : RY} {vs : List Nat} (hp : G.lp = true) (hc : G.B.cal = false) (hi : DI G tg iter ti) (hg : DG G tg vs g) (hb : DYs G body tb)
    (hs : ∀ (env : Env) x, foldedSetIterable iter env x = pure x := by intro _ _; rfl) : DY G (.For tg iter body [] pos) (yFor ti g tb) := by
  refine ⟨fun {X en} f => gs_imp (gs_for (X := X) (pos := pos) (f.po hp) (f.b.cm hc).1 (ican X tg iter) (gcan X tg) (hb.run f) (hs _)) fun D' vs σ H ⟨W, ρ, S, ys, D, r, rp, tk, q, im⟩ => ?_⟩
  intro pins s I
  refine thn (hi.run ⟨f, tk, r, I⟩ q) fun v s1 h1 => thn h1 fun itv s2 h2 => ?_
  refine pi_imp (fun J H1 ⟨W1, xs, S1, h1, g1, wk, q1⟩ => ?_) h2
  have r1 := r.after h1 g1
  refine ⟨fun i m vs' σ' H' => m = xs.length - i ∧ i ≤ xs.length ∧ ∃ W' ρ' S' y', Rs G.B.K en W' σ' H' ρ' S' ∧ W1.Le W' ∧ Reps G.B.K W' y' vs' ∧ LoopY g tb D (xs.drop i) y' ρ' S', ⟨xs.length, by simp, Nat.zero_le _, W1, ρ, S1, ys, r1, .refl, rp.le g1.le, by simpa using q1⟩, ?_⟩
  rintro i m vs2 σ2 H2 ⟨rfl, hi, W2, ρ2, S2, y2, r2, l2, p2, q2⟩
  by_cases hlt : i < xs.length
  · refine .inr ⟨wk.go i W2 H2 S2 l2 r2.ho hlt, fun vs3 σ3 H3 => ∃ W3 ρ3 S3 y3, Rs G.B.K en W3 σ3 H3 ρ3 S3 ∧ W1.Le W3 ∧ Reps G.B.K W3 y3 vs3 ∧ LoopY g tb D (xs.drop (i + 1)) y3 ρ3 S3, fun vs3 σ3 H3 ⟨W3, ρ3, S3, y3, r3, l3, p3, q3⟩ => ⟨_, by omega, rfl, hlt, W3, ρ3, S3, y3, r3, l3, p3, q3⟩, fun x H3 y => ?_⟩
    obtain ⟨d, W3, ed, h3, g3, rd⟩ := wk.yl i W2 H2 S2 x H3 l2 r2.ho hlt y
    rw [List.drop_eq_getElem_cons hlt] at q2
    have e2 : xs[i] = d := by
      rw [List.getElem?_eq_getElem hlt] at ed
      exact Option.some.inj ed
    rw [e2] at q2
    intro pins3 s3 u I3 ru
    have z3 : At G X en W3 σ2 H3 ρ2 S2 D.ex pins3 s3 := ⟨f, tk_up (g1.le.trans (l2.trans g3.le)) tk, r2.after h3 g3, I3⟩
    refine thn (hg.run z3 rd ru q2) fun _ s4 ⟨σ4, H4, W4, ρ4, S4, z4, ⟨l4, q4⟩, _⟩ => ⟨σ4, H4, z4.I, ?_⟩
    have l5 : W1.Le W4 := (l2.trans g3.le).trans l4
    refine ⟨W4, ρ4, S4, y2, ⟨LoopY g tb D (xs.drop (i + 1)), D.rt, D.nx, LoopY g tb D (xs.drop (i + 1)), D.ex⟩, z4.rs, p2.le (g3.le.trans l4), z4.tk, q4, ⟨?_, ?_, ?_, ?_⟩⟩
    · exact fun _ _ _ ⟨W6, ρ6, S6, y6, r6, l6, k6⟩ => ⟨W6, ρ6, S6, y6, r6, l5.trans l6, k6⟩
    · exact fun _ _ _ ⟨W6, σ6, ρ6, d6, S6, y6, r6, l6, k6⟩ => im.rt _ _ _ ⟨W6, σ6, ρ6, d6, S6, y6, r6, g1.le.trans (l5.trans l6), k6⟩
    · exact fun _ _ _ ⟨W6, ρ6, S6, y6, r6, l6, k6⟩ => im.nx _ _ _ ⟨W6, ρ6, S6, y6, r6, g1.le.trans (l5.trans l6), k6⟩
    · exact fun _ _ _ ⟨W6, ρ6, S6, y6, r6, l6, k6⟩ => ⟨W6, ρ6, S6, y6, r6, l5.trans l6, k6⟩
  · have e : i = xs.length := by omega
    subst e
    rw [List.drop_length] at q2
    exact .inl ⟨wk.st _ W2 H2 S2 l2 r2.ho (Nat.le_refl _), im.nx _ _ _ ⟨W2, ρ2, S2, y2, r2, g1.le.trans l2, p2, q2⟩⟩
end
/-! ### the def -/
/-- the settings of a generator's body -/
abbrev genCf (B : Bs) (k : Nat) (N : List Str) (scope : Scope) : Cf := fnCf { B with hot := true, gen := true } k N scope
/-- what a generator def promises -/
def spY (B : Bs) (N ps : List Str) (t : RY) : SpG := fun vs H Q E => vs.length = ps.length ∧ ∃ (en : En) (W : Wd) (S : Sto) (ds : List D) (Dn : YEnds), en.pin = none ∧ Rs B.K en W (L2.start N vs) H (startS N.length ds) S ∧ t Dn [] (startS N.length ds) S ∧
  (∀ vs' σ' H', (yends B.K en W Dn).nx vs' σ' H' → Q vs' H') ∧ (∀ vs' v H', (yends B.K en W Dn).rt vs' v H' → v = .non ∧ Q vs' H') ∧ (∀ ys ρ S, ¬ Dn.bk ys ρ S) ∧ (∀ ys ρ S, ¬ Dn.ct ys ρ S) ∧ ∀ cls d σ' H', XT B.K en W Dn.ex cls d σ' H' → E cls d H'
section
variable {B : Bs} {x qual : Str} {params : Arguments} {body : List Stmt} {scope : Scope} {dvs : List V} {kws : List (Str × V)} {f : Addr} {fd : FuncData} {N ps : List Str} {k : Nat} {t : RY}
theorem gen_def (F : FunD B.K x qual params body scope dvs kws f fd) (Sc : GScope N ps scope) (hd : DYs (genCf B k N scope) body t) : GFn B.P B.w B.K B.mg B.base (k + 1) f fd ps (spY B N ps t) := by
  obtain ⟨oc, od, dV, kV, doc, pm, an, cdv, ct, osl, rfl, lk, hcd, hD, _⟩ := F.ex
  refine gfn_of lk hcd Sc (fun vs H Q E h => h.1) fun A outer s H vs Q E pn hr ⟨hl, en, W, S, ds, Dn, ep, rs, q, n1, n2, n3, n4, n5⟩ => ?_
  have ft : Fits (genCf B k N scope) (gcxOf B.P B.w B.K B.mg B.base N qual scope f cdv A outer s H E pn) en :=
    ⟨⟨rfl, rfl, rfl, rfl, rfl, ⟨hr.dp, hr.un⟩, (fun h => Bool.noConfusion h), fun _ => ⟨rfl, hr.hd⟩, (fun p e => by rw [ep] at e; cases e), fun _ => ep⟩, rfl, rfl, Sc.nd, fun _ _ => rfl, fun _ => owns_gcx, fun _ => ⟨rfl, rfl⟩, trivial⟩
  refine ⟨_, hd.run ft, W, _, S, [], Dn, rs, .nil, takes_gcx.imp n5, q, ⟨fun vs' σ' H' h => n1 _ _ _ h, fun vs' v H' h => n2 _ _ _ h, fun vs' σ' H' ⟨W', ρ', S', ys, _, _, _, z⟩ => (n3 _ _ _ z).elim, fun vs' σ' H' ⟨W', ρ', S', ys, _, _, _, z⟩ => (n4 _ _ _ z).elim⟩⟩
end
/-! ### list(o.m()), where nothing is raised -/
abbrev dGList (B : Bs) (C m : Str) (n : Nat) (t : RY) (to : RE) : RE := fun ρ S E Q => to ρ S E fun x S1 => ∃ d, x = .v d ∧ MtD B.K m d S1 C ∧
  t ⟨fun ys _ S2 => Q (.v (.lst ys)) S2, fun ys r _ S2 => r = .non ∧ Q (.v (.lst ys)) S2, fun _ _ _ => False, fun _ _ _ => False, noE⟩ [] (startS n [d]) S1
section
variable {G : Cf} {o : Expr} {to : RE} {C m a : Str} {k : Nat} {fd : FuncData} {N : List Str} {t : RY} {p pos pos' apos : Pos}
theorem de_glist (hc : G.B.hot = false) (hk : k + 3 ≤ G.k) (hg : Glb G "list") (hm : G.B.mg "list" = none) (ho : DE G o to) (c : Cls G.B.K (He.ga G.B.K C)) (mt : Meth G.B.K (He.ga G.B.K C) m (mAd G.B.K C m)) (F : GFn G.B.P G.B.w G.B.K G.B.mg G.B.base k (mAd G.B.K C m) fd [a] (spY G.B N [a] t)) (hb : Binds G.B.K fd [a] [])
    (ht : MethTx o m apos pos' [] [] := by intro _; exact ⟨_, rfl⟩)
    (he : ∀ env : Env, starEach [.Call (.Attribute o m apos) [] [] pos'] env = (false, eval (.Call (.Attribute o m apos) [] [] pos') env) :: starEach [] env := by intro _; rfl) :
    DE G (.Call (.Name "list" p) [.Call (.Attribute o m apos) [] [] pos'] [] pos) (dGList G.B C m N.length t to) := by
  refine ⟨fun {X en W σ H ρ S E pins s Q} z q => ?_⟩
  obtain ⟨pl, ht⟩ := ht X.env
  have hr := ((z.hf.b.rg hc).mono hk).r
  have hr0 := ((z.hf.b.rg hc).mono (Nat.le_trans (Nat.le_add_right k 3) hk)).r
  have F' : GFn X.prog X.w X.K X.mg X.base k (mAd G.B.K C m) fd [a] (spY G.B N [a] t) := by
    rw [z.hf.b.P, z.hf.b.w, z.hf.b.K, z.hf.b.mg, z.hf.b.base]; exact F
  have PG := pgen_meth0 (X := X) (E := fun _ _ _ => False) (pl := pl) (pcan X o) (by rw [z.hf.b.K]; exact c) (by rw [z.hf.b.K]; exact mt) F' hr0 (by rw [z.hf.b.K]; exact hb) .nil ht
  have PP := pe_listG (p := p) (pos := pos) PG (fun pins σ H s e s' I cx => by
    obtain ⟨_, _, _, _, _, _, _, _, _, _, _, _, hW⟩ := cx
    exact hW.elim) (fun _ _ _ z => z.elim) hr (gl_of z.hf.sc hg) (by rw [z.hf.b.mg]; exact hm) rfl (he := he _)
  refine PP.run pins s σ H _ z.I ?_
  intro pins' s' I'
  refine thn (ho.run (z.re I') q) fun u s1 => ep_mono fun v H1 ⟨W1, o1, S1, h1, g1, ro, d, eo, ⟨fs, i, _, _, l⟩, q1⟩ => ?_
  subst eo
  obtain ⟨b, dx, vs, rfl, ea, rf⟩ := isI_at (en := en) h1 i ro
  have l2 : vs.lookup m = none := by
    rcases rf.look m with ⟨d', w, e1, e2, r⟩ | ⟨_, e2⟩
    · rw [l] at e1
      cases e1
    · exact e2
  have fin : ∀ {vs' : List V} {H' : Hp} {W' : Wd} {σ' : L2.St} {ρ' : List Sl} {S' : Sto} {ys : List D}, Rs G.B.K ⟨W1, H1, 0, none⟩ W' σ' H' ρ' S' → Reps G.B.K W' ys vs' → Q (.v (.lst ys)) S' → ∀ p, H' p = none → Nx G.B.K en W H Q (.ref p) (upd H' p (.lst vs')) := fun {vs' H' W' σ' ρ' S' ys} r rp q2 p hn =>
    ⟨W'.frz p (.lst vs'), .v (.lst ys), S', r.ho.frz hn, ((g1.trans r.go r.ho).trans (Go.frz r.ho hn) (r.ho.frz hn)), .lst (.inl upd_same) (rp.le (W'.frz_le (r.ho.nF hn))), q2⟩
  refine ⟨b, dx, vs, rfl, ea, l2, ?_⟩
  refine ⟨rfl, ⟨W1, H1, 0, none⟩, W1, S1, [d], _, rfl, start_rs h1 .refl (.cons ro .nil), q1, fun vs' σ' H' ⟨W', ρ', S', ys, r, _, rp, q2⟩ => fin r rp q2, fun vs' v H' ⟨W', σ', ρ', d, S', ys, r, _, rd, rp, en, q2⟩ => ?_, fun _ _ _ z => z, fun _ _ _ z => z, fun cls d σ' H' ⟨_, _, _, _, _, _, _, _, z⟩ => z⟩
  subst en
  cases rd
  exact ⟨rfl, fin r rp q2⟩
end
end Dt

set_option Elab.async false
set_option linter.all false
set_option maxRecDepth 100000
set_option maxHeartbeats 4000000
/-! DatZS: name = {k: v for .. in a dict of the store} -/
namespace Dt
open PySem PySem.Spec PyProof.Rows L2 My He SX
/-- the turns that are left, C0 at each -/
def DcC (C0 : Sto → Prop) (g : RG) (tt : RT) (tk tv : RE) (ρ : List Sl) : List D → List (Key × D) → Sto → (List (Key × D) → Sto → Prop) → Prop
  | [], acc, S, Q => C0 S ∧ Q acc S
  | x :: xs, acc, S, Q => C0 S ∧ (g x ρ S noE fun ρ' S' => tt ρ' S' noE fun c S2 => if c = true then tk ρ' S2 noE fun o S3 => ∃ k, o = .v (kD k) ∧ tv ρ' S3 noE fun p S4 => ∃ d, p = .v d ∧ acc.length < sizeLine ∧ DcC C0 g tt tk tv ρ xs (putKD acc k d) S4 Q else DcC C0 g tt tk tv ρ xs acc S2 Q)
theorem DcC.now {C0 : Sto → Prop} {g : RG} {tt : RT} {tk tv : RE} {ρ : List Sl} {S : Sto} {Q : List (Key × D) → Sto → Prop} : ∀ {xs : List D} {acc : List (Key × D)}, DcC C0 g tt tk tv ρ xs acc S Q → C0 S
  | [], _, h => h.1
  | _ :: _, _, h => h.1
section
variable {G : Cf} {X : Cx} {en : En} {W W1 : Wd} {σ : L2.St} {H H1 : Hp} {ρ : List Sl} {S S1 : Sto} {pins : List (Addr × Obj)} {s s1 : Shared} {tg iter : Expr} {pos : Pos}
theorem dc_turnsR {kx vx : Expr} {ifs : List Expr} {scope : Scope} {own : List (Str × Nat)} {ws : List Nat} {g : RG} {tt : RT} {tk tv : RE} {Q : List (Key × D) → Sto → Prop} {J : It} {xs : List D} {C0 : Sto → Prop} (hc : G.B.cal = false) (hw : ∀ j, j ∈ ws → j ∈ own.map (·.2)) (hg : DG (G.blk scope) tg ws g) (ht : DTs (G.blk scope) ifs tt) (hk : DE (G.blk scope) kx tk) (he : DE (G.blk scope) vx tv) (hf : Fits G X en) (rs : Rs G.B.K en W1 σ H1 ρ S1)
    (wk : WkC G.B.K W1 H1 J xs C0) (q1 : DcC C0 g tt tk tv (wipeS ρ (own.map (·.2))) xs [] S1 Q) (L : Addr) (hL : H1 L = none) : ∃ Wv : Nat → Nat → Hp → Prop, (∃ m, Wv 0 m (upd H1 L (.dK []))) ∧ ∀ i m H, Wv i m H →
  (J.stop i H ∧ ∃ W2 vs xs S2, H L = some (.dK vs) ∧ RepK G.B.K W2 xs vs ∧ Ho G.B.K W2 H S2 ∧ Go W1 H1 W2 H ∧ W2.F L = none ∧ (∀ i, i < W2.n → W2.m i ≠ L) ∧ C0 S2 ∧ Q xs S2) ∨ (J.go i H ∧ ∃ Nx : Hp → Prop, (∀ H', Nx H' → ∃ m', m' < m ∧ Wv (i + 1) m' H') ∧ ∀ x H', J.yld i H x H' → tGb X scope tg x (L2.wipe σ (own.map (·.2))) H' fun σ2 H2 => L2.wipe σ2 (own.map (·.2)) = L2.wipe σ (own.map (·.2)) ∧ tTb X scope ifs σ2 H2 fun b H3 =>
    if b = true then tEb X scope kx σ2 H3 fun y H4 => tEb X scope vx σ2 H4 fun z H5 => ∃ kvs k, y = kV k ∧ H5 L = some (.dK kvs) ∧ kvs.length < sizeLine ∧ Nx (upd H5 L (.dK (putK kvs k z))) else Nx H3) := by
  have r1 := rs.wipe (own.map (·.2))
  have h1 := rs.ho
  have nm : ∀ i, i < W1.n → W1.m i ≠ L := fun i hi c => by
    obtain ⟨u2, e2⟩ := h1.there i hi
    rw [c, hL] at e2
    cases e2
  have nE : en.H L = none := by
    have g0 := rs.go
    cases y : en.H L with
    | none => rfl
    | some u =>
      by_cases c : ∃ i, i < en.W.n ∧ en.W.m i = L
      · obtain ⟨i, hi, c⟩ := c
        rw [← g0.le.m i hi] at c
        exact (nm i (Nat.lt_of_lt_of_le hi g0.le.n) c).elim
      · have := g0.kp L u y fun i hi k => c ⟨i, hi, k⟩
        rw [hL] at this
        cases this
  have w0 : Own en W1 (upd H1 L (.dK [])) L := ⟨h1.nF hL, nE, nm⟩
  have w1 : Own en W1 H1 L := ⟨h1.nF hL, nE, nm⟩
  refine ⟨fun i m H' => m = xs.length - i ∧ i ≤ xs.length ∧ ∃ W' S' acc vs, H' L = some (.dK vs) ∧ RepK G.B.K W' acc vs ∧ Ho G.B.K W' H' S' ∧ Go W1 H1 W' H' ∧ Own en W' H' L ∧ DcC C0 g tt tk tv (wipeS ρ (own.map (·.2))) (xs.drop i) acc S' Q,
    ⟨xs.length, by simp, Nat.zero_le _, W1, S1, [], [], upd_same, .nil, h1.own_put w1, Go.own_put .refl hL, w0, by simpa using q1⟩, ?_⟩
  rintro i m H2 ⟨rfl, hi, W2, S2, acc, vs, eL, ra, h2, g2, w2, q2⟩
  by_cases hlt : i < xs.length
  · refine .inr ⟨wk.go i W2 H2 S2 g2 h2 (DcC.now q2) hlt, fun H' => ∃ W' S' acc vs, H' L = some (.dK vs) ∧ RepK G.B.K W' acc vs ∧ Ho G.B.K W' H' S' ∧ Go W1 H1 W' H' ∧ Own en W' H' L ∧ DcC C0 g tt tk tv (wipeS ρ (own.map (·.2))) (xs.drop (i + 1)) acc S' Q, fun H' k => ⟨_, by omega, rfl, hlt, k⟩, fun x H3 y => ?_⟩
    obtain ⟨d, W3, ed, h3, g3, rd⟩ := wk.yl i W2 H2 S2 x H3 g2 h2 (DcC.now q2) hlt y
    rw [List.drop_eq_getElem_cons hlt] at q2
    replace q2 := q2.2
    have e2 : xs[i] = d := by
      rw [List.getElem?_eq_getElem hlt] at ed
      exact Option.some.inj ed
    rw [e2] at q2
    intro s0 H0 C cl fp pins3 s3 u I3 ru
    have ef : Fits (G.blk scope) (X.blk s0 H0 scope (compEnvC scope cl C X.env) fp) en := hf.blk hc
    have z3 : At (G.blk scope) (X.blk s0 H0 scope (compEnvC scope cl C X.env) fp) en W3 (L2.wipe σ (own.map (·.2))) H3 (wipeS ρ (own.map (·.2))) S2 noE pins3 s3 := ⟨ef, takes_no, (r1.after h2 g2).after h3 g3, I3⟩
    refine thn (hg.run z3 rd ru q2) fun _ s4 ⟨σ4, H4, W4, ρ4, S4, z4, ⟨l4, q4⟩, ⟨k4, n4⟩, g4⟩ => ⟨σ4, H4, z4.I, ?_, ?_⟩
    · have e1 := wipe_eq (own.map (·.2)) n4 fun j hj => k4 j fun c => hj (hw j c)
      rw [e1]
      exact wipe_eq _ (wipe_length _ _) fun j hj => wipe_out hj
    · intro s01 H01 C1 cl1 fp1 pins5 s5 I5
      have ef1 : Fits (G.blk scope) (X.blk s01 H01 scope (compEnvC scope cl1 C1 X.env) fp1) en := hf.blk hc
      have z5 : At (G.blk scope) (X.blk s01 H01 scope (compEnvC scope cl1 C1 X.env) fp1) en W4 σ4 H4 ρ4 S4 noE pins5 s5 := ⟨ef1, takes_no, z4.rs, I5⟩
      refine thn (ht.run z5 q4) fun b s6 ⟨H6, I6, W6, S6, h6, g6, q6⟩ => ⟨H6, I6, ?_⟩
      have g26 : Go W2 H2 W6 H6 := ((g3.trans g4 z4.rs.ho).trans g6 h6)
      cases b with
      | false =>
        simp only [Bool.false_eq_true, if_false] at q6 ⊢
        exact ⟨W6, S6, acc, vs, g26.kp L _ eL w2.m, ra.le g26.le, h6, g2.trans g26 h6, w2.go g26 eL, q6⟩
      | true =>
        simp only [if_true] at q6 ⊢
        intro s02 H02 C2 cl2 fp2 pins7 s7 I7
        have ef2 : Fits (G.blk scope) (X.blk s02 H02 scope (compEnvC scope cl2 C2 X.env) fp2) en := hf.blk hc
        have z7 : At (G.blk scope) (X.blk s02 H02 scope (compEnvC scope cl2 C2 X.env) fp2) en W6 σ4 H6 ρ4 S6 noE pins7 s7 := ⟨ef2, takes_no, z5.rs.after h6 g6, I7⟩
        refine thn (hk.run z7 q6) fun v8 s8 ⟨x8, H8, I8, r8, W8, o8, S8, h8, g8, ro8, k8, eo, q8⟩ => ?_
        subst eo
        obtain rfl := rep_key ro8
        refine ⟨kV k8, H8, I8, r8, ?_⟩
        intro s03 H03 C3 cl3 fp3 pins9 s9 I9
        have ef3 : Fits (G.blk scope) (X.blk s03 H03 scope (compEnvC scope cl3 C3 X.env) fp3) en := hf.blk hc
        have z9 : At (G.blk scope) (X.blk s03 H03 scope (compEnvC scope cl3 C3 X.env) fp3) en W8 σ4 H8 ρ4 S8 noE pins9 s9 := ⟨ef3, takes_no, z7.rs.after h8 g8, I9⟩
        refine thn (he.run z9 q8) fun v10 s10 ⟨x10, H10, I10, r10, W10, o10, S10, h10, g10, ro10, d10, eo, hz, q10⟩ => ?_
        subst eo
        have g210 := (g26.trans g8 h8).trans g10 h10
        have eL10 := g210.kp L _ eL w2.m
        have w10 := w2.go g210 eL
        refine ⟨x10, H10, I10, r10, vs, k8, rfl, eL10, by rw [ra.len]; exact hz, W10, S10, putKD acc k8 d10, putK vs k8 x10, upd_same, (ra.le g210.le).put k8 ro10, h10.own_put w10, Go.own_put (g2.trans g210 h10) hL, ⟨w10.f, w10.e, w10.m⟩, q10⟩
  · have e : i = xs.length := by omega
    subst e
    rw [List.drop_length] at q2
    have c2 := q2.1
    replace q2 := q2.2
    exact .inl ⟨wk.st _ W2 H2 S2 g2 h2 c2 (Nat.le_refl _), W2, vs, acc, S2, eL, ra, h2, g2, w2.f, w2.m, c2, q2⟩
abbrev fDcL (ti : RL) (g : RG) (tt : RT) (tk tv : RE) (ws : List Nat) : RFd := fun ρ S E Q => ti ρ S E fun n kvs xs S1 => ∀ u : HO, DcC (fun S' => S'[n]? = some (.lck u kvs)) g tt tk tv (wipeS ρ ws) xs [] (S1.set n (.lck u kvs)) fun ys S2 => Q ys (S2.set n (.dct kvs))
theorem ds_setDcL {i : Nat} {y : Str} {py spos : Pos} {iter kx vx : Expr} {ifs : List Expr} {scope : Scope} {own : List (Str × Nat)} {ws : List Nat} {ti : RL} {g : RG} {tt : RT} {tk tv : RE} (hc : G.B.cal = false) (hw : ∀ j, j ∈ ws → j ∈ own.map (·.2)) (hy : G.N[i]? = some y) (hyl : G.sc.names.lookup y = some .local)
    (hsw : ∀ env : Env, env.scope = G.sc → swapsWith (.DictComp kx vx [⟨tg, iter, ifs, 0⟩] scope pos) (some (.Name y py)) spos.line env = pure true) (hi : DIL G tg iter ti) (ok : BlkOk G.N G.sc scope own) (hg : DG (G.blk scope) tg ws g) (ht : DTs (G.blk scope) ifs tt) (hk : DE (G.blk scope) kx tk) (he : DE (G.blk scope) vx tv)
    (hs : ∀ (env : Env) x, foldedSetIterable iter env x = pure x := by intro _ _; rfl) : DS G (.Assign [.Name y py] (.DictComp kx vx [⟨tg, iter, ifs, 0⟩] scope pos) spos) (dAsg (dDc (fDcL ti g tt tk tv (own.map (·.2)))) (gName i)) := by
  refine ⟨fun {X en W σ H ρ S pins s D} z q => ?_⟩
  have PP := ps_setDcO (X := X) (i := i) (y := y) (py := py) (spos := spos) (kx := kx) (vx := vx) (tg := tg) (iter := iter) (ifs := ifs) (scope := scope) (own := own) (pos := pos) (wi := tIr X tg iter) (g := tGb X scope tg) (tt := tTb X scope ifs) (tk := tEb X scope kx) (tv := tEb X scope vx) (z.hf.b.cm hc).1 z.hf.nd (by rw [z.hf.N]; exact hy) (by rw [z.hf.sc]; exact hyl) (hsw _ z.hf.sc) (ican X tg iter) (by rw [z.hf.N, z.hf.sc]; exact ok)
    (fun s H C cl fp => ⟨fun pins s' σ H v u Q I r h => h _ _ _ _ _ pins s' u I r⟩) (fun s H C cl fp => ⟨fun pins s' σ H Q I h => h _ _ _ _ _ pins s' I⟩) (fun s H C cl fp => ⟨fun pins s' σ H Q I h => h _ _ _ _ _ pins s' I⟩) (fun s H C cl fp => ⟨fun pins s' σ H Q I h => h _ _ _ _ _ pins s' I⟩) (hs _)
  refine thn (PP.run pins s σ H { nx := fun σ' H2 => ∃ a W2 vs ys S2 n kvs vs0 od, σ' = σ.set i (some (.ref a)) ∧ H2 a = some (.dK vs) ∧ RepK G.B.K W2 ys vs ∧ Ho G.B.K W2 H2 S2 ∧ Go W H W2 H2 ∧ H a = none ∧ W2.F a = none ∧ (∀ i, i < W2.n → W2.m i ≠ a) ∧ S2[n]? = some (.lck (.frz od (.dK vs0)) kvs) ∧ (∀ o' u', X.H_0 (W2.m n) ≠ some (.frz o' u')) ∧ NewD (S2.set n (.dct kvs)) (fun o S' => ∃ d, o = .v d ∧ D.nx (ρ.set i (.sh d)) S') ys, rt := fun _ _ => False } z.I ?_) fun fl s1 hq => ?_
  · intro pins' s' I
    refine thn (hi.run (z.re I) q) fun v s1 h1 => thn h1 fun itv s2 h2 => ?_
    refine pi_imp (fun J H1 ⟨W1, S1, n, kvs, vs0, od, xs, h1, g1, wk, hn, fz, q1⟩ L hL => ?_) h2
    have hL0 : H L = none := by
      cases y : H L with
      | none => rfl
      | some u =>
        by_cases c : ∃ i, i < W.n ∧ W.m i = L
        · obtain ⟨i, hi, c⟩ := c
          rw [← g1.le.m i hi] at c
          obtain ⟨u2, e2⟩ := h1.there i (Nat.lt_of_lt_of_le hi g1.le.n)
          rw [c, hL] at e2
          cases e2
        · have := g1.kp L u y fun i hi k => c ⟨i, hi, k⟩
          rw [hL] at this
          cases this
    obtain ⟨Wv, m0, st⟩ := dc_turnsR hc hw hg ht hk he z.hf (z.rs.after h1 g1) wk (q1 (.frz od (.dK vs0))) L hL
    exact ⟨Wv, m0, fun i' m H w => (st i' m H w).imp (fun ⟨p1, W2, vs, ys, S2, eL, ra, h2, g2, f2, m2, c2, q2⟩ => ⟨p1, L, W2, vs, ys, S2, n, kvs, vs0, od, rfl, eL, ra, h2, g1.trans g2 h2, hL0, f2, m2, c2, by rw [g2.le.m n hn]; exact fz, q2⟩) id⟩
  · cases fl with
    | brk => exact let ⟨_, _, _, q⟩ := hq; q.elim
    | cont => exact let ⟨_, _, _, q⟩ := hq; q.elim
    | ret v => exact let ⟨_, _, _, _, _, q⟩ := hq; q.elim
    | next =>
      obtain ⟨σ', H1, I1, a, W1, vs, xs, S1, n, kvs, vs0, od, es, ha, rr, h1, g1, na, nf, nm, cS, fz, q1⟩ := hq
      subst es
      obtain ⟨ed, rk⟩ := lck_at h1 cS
      have hn := cell_lt h1 cS
      have ho2 := h1.put (o := .dK vs0) (c := .dct kvs) hn ⟨vs0, upd_same, rk⟩
      have I2 := I1.unlock ed fz
      have ha2 : upd H1 (W1.m n) (.dK vs0) a = some (.dK vs) := by rw [upd_ne (Ne.symm (nm n hn))]; exact ha
      have g2 : Go W H W1 (upd H1 (W1.m n) (.dK vs0)) := g1.trans (Go.put hn) ho2
      refine ⟨_, _, I2, ?_⟩
      rcases q1 with ⟨d, ed, q1⟩ | ⟨d, ed, q1⟩
      · cases ed
        exact ⟨W1.frz a (.dK vs), _, _, (z.rs.after (ho2.frz2 ha2 nf nm) (Go.frz2 (K := G.B.K) g2 na nf)).set i (s := .sh (.dct xs)) rfl ⟨.ref a, rfl, .dct upd_same (rr.le (W1.frz_le nf))⟩, (Go.frz2 (K := G.B.K) g2 na nf).le, q1⟩
      · cases ed
        have y : Rep G.B.K (W1.cell a) (.ptr W1.n) (.ref ((W1.cell a).m W1.n)) := .ptr (Nat.lt_succ_self _)
        rw [Wd.cell_new, ho2.n] at y
        have hc2 := ho2.cell2 (c := .dct xs) ha2 nf nm ⟨vs, ha2, rr.le Wd.cell_le⟩
        exact ⟨W1.cell a, _, _, (z.rs.after hc2 (g2.cell2 na)).set i (s := .sh (.ptr (S1.set n (.dct kvs)).length)) rfl ⟨.ref a, rfl, y⟩, (g2.cell2 na).le, q1⟩
end
end Dt

set_option Elab.async false
set_option linter.all false
set_option maxRecDepth 100000
set_option maxHeartbeats 4000000
/-! DatZT: loops of generators by an invariant; dict comprehensions that read no state; a generator's reading as a thing -/
namespace Dt
open PySem PySem.Spec PyProof.Rows L2 My He SX
/-- a generator's body with its reading -/
structure GenR (G : Cf) (st : List Stmt) where
  t : RY
  h : DYs G st t
theorem loopY_inv {g : RG} {tb : RY} {D : YEnds} {xs : List Dt.D} {ys : List Dt.D} {ρ : List Sl} {S : Sto} (I : Nat → List Dt.D → List Sl → Sto → Prop) (h0 : I 0 ys ρ S)
    (hs : ∀ i x ys ρ S (Nx : List Dt.D → List Sl → Sto → Prop), xs[i]? = some x → I i ys ρ S → (∀ ys' ρ' S', I (i + 1) ys' ρ' S' → Nx ys' ρ' S') → g x ρ S D.ex fun ρ' S' => tb ⟨Nx, D.rt, D.nx, Nx, D.ex⟩ ys ρ' S')
    (hd : ∀ ys ρ S, I xs.length ys ρ S → D.nx ys ρ S) : LoopY g tb D xs ys ρ S := by
  induction xs generalizing I ys ρ S with
  | nil => exact hd _ _ _ h0
  | cons z zs ih =>
    refine hs 0 z ys ρ S _ rfl h0 fun ys' ρ' S' q => ?_
    exact ih (fun i => I (i + 1)) q (fun i x ys ρ S Nx e q hn => hs (i + 1) x ys ρ S Nx (by simpa using e) q hn) fun ys ρ S q => hd ys ρ S q
theorem putKD_len {kvs : List (Key × D)} {k : Key} {v : D} : (putKD kvs k v).length ≤ kvs.length + 1 := by
  unfold putKD
  split
  · rw [List.length_map]
    omega
  · rw [List.length_append]
    exact Nat.le_refl _
/-- one that reads no state -/
theorem dcC_pure {C0 : Sto → Prop} {g : RG} {tt : RT} {tk tv : RE} {ρ : List Sl} {S : Sto} {xs : List D} {R : List (Key × D) → Sto → Prop} (kf : D → Key) (vf : D → D) (hC : C0 S) (hz : xs.length ≤ 1000000)
    (hs : ∀ x, x ∈ xs → ∀ (Y : Key → D → Sto → Prop) (N : Sto → Prop), Y (kf x) (vf x) S → g x ρ S noE fun ρ' S' => tt ρ' S' noE fun c S2 => if c = true then tk ρ' S2 noE fun o S3 => ∃ k, o = .v (kD k) ∧ tv ρ' S3 noE fun p S4 => ∃ d, p = .v d ∧ Y k d S4 else N S2)
    (hd : R (xs.foldl (fun a x => putKD a (kf x) (vf x)) []) S) : DcC C0 g tt tk tv ρ xs [] S R := by
  have key : ∀ (xs : List D) (acc : List (Key × D)), acc.length + xs.length ≤ 1000000 → (∀ x, x ∈ xs → ∀ (Y : Key → D → Sto → Prop) (N : Sto → Prop), Y (kf x) (vf x) S → g x ρ S noE fun ρ' S' => tt ρ' S' noE fun c S2 => if c = true then tk ρ' S2 noE fun o S3 => ∃ k, o = .v (kD k) ∧ tv ρ' S3 noE fun p S4 => ∃ d, p = .v d ∧ Y k d S4 else N S2) →
      R (xs.foldl (fun a x => putKD a (kf x) (vf x)) acc) S → DcC C0 g tt tk tv ρ xs acc S R := by
    intro xs
    induction xs with
    | nil => exact fun acc _ _ hd => ⟨hC, hd⟩
    | cons y ys ih =>
      intro acc hz hs hd
      rw [List.length_cons] at hz
      refine ⟨hC, hs y (.head _) (fun k d S4 => acc.length < sizeLine ∧ DcC C0 g tt tk tv ρ ys (putKD acc k d) S4 R) _ ⟨by rw [sizeLine_eq]; omega, ?_⟩⟩
      refine ih _ ?_ (fun x hx => hs x (.tail _ hx)) hd
      have := putKD_len (kvs := acc) (k := kf y) (v := vf y)
      omega
  exact key xs [] (by simpa using hz) hs hd
end Dt

set_option Elab.async false
set_option linter.all false
set_option maxRecDepth 100000
set_option maxHeartbeats 4000000
/-! DatZU: two branches that meet again -/
namespace Dt
open PySem PySem.Spec PyProof.Rows L2 My
section
variable {c : Prop} [Decidable c] {ρ : List Sl} {S : Sto} {α : Type}
/-- branches of a suite -/
theorem j_S {A B : RS} {nx bk ct : List Sl → Sto → Prop} {rt : Dt.D → List Sl → Sto → Prop} {ex : XD} (P : α → Sto → Prop) (R : α → List Sl) (key : ∀ a S', P a S' → nx (R a) S') (t : ∀ nx : List Sl → Sto → Prop, (∀ a S', P a S' → nx (R a) S') → c → A ⟨nx, rt, bk, ct, ex⟩ ρ S)
    (e : ∀ nx : List Sl → Sto → Prop, (∀ a S', P a S' → nx (R a) S') → ¬c → B ⟨nx, rt, bk, ct, ex⟩ ρ S) : if decide c = true then A ⟨nx, rt, bk, ct, ex⟩ ρ S else B ⟨nx, rt, bk, ct, ex⟩ ρ S := by
  by_cases h : c
  · rw [decide_eq_true h, if_pos rfl]
    exact t _ key h
  · rw [decide_eq_false h, if_neg Bool.false_ne_true]
    exact e _ key h
end
end Dt

set_option Elab.async false
set_option linter.all false
set_option maxRecDepth 100000
set_option maxHeartbeats 4000000
/-! DatZV: calls by keywords, in any order, defaults for those that lack -/
namespace Dt
open PySem PySem.Spec PyProof.Rows L2 My
/-- the further parameters, each from the keywords' values (true) or the defaults (false) -/
def pJ {α : Type} : List (Bool × Nat) → List α → List α → List α
  | [], _, _ => []
  | (true, i) :: r, its, ws => (ws.drop i).take 1 ++ pJ r its ws
  | (false, i) :: r, its, ws => (its.drop i).take 1 ++ pJ r its ws
theorem pJ_vals {ds zs : List V} {its ws : List Value} (r1 : Vals ds its) (r2 : Vals zs ws) : ∀ js : List (Bool × Nat), Vals (pJ js ds zs) (pJ js its ws)
  | [] => .nil
  | (true, i) :: r => ((Vals.drop i r2).take 1).append (pJ_vals r1 r2 r)
  | (false, i) :: r => ((Vals.drop i r1).take 1).append (pJ_vals r1 r2 r)
theorem pJ_reps {K : PySem.W.Frag} {W : Wd} {ds zs : List D} {vs ws : List V} (r1 : Reps K W ds vs) (r2 : Reps K W zs ws) : ∀ js : List (Bool × Nat), Reps K W (pJ js ds zs) (pJ js vs ws)
  | [] => .nil
  | (true, i) :: r => ((r2.drop i).take 1).app (pJ_reps r1 r2 r)
  | (false, i) :: r => ((r1.drop i).take 1).app (pJ_reps r1 r2 r)
theorem pJ_len {α : Type} {its ws : List α} : ∀ {js : List (Bool × Nat)}, (∀ p ∈ js, p.2 < (if p.1 = true then ws.length else its.length)) → (pJ js its ws).length = js.length
  | [], _ => rfl
  | (true, i) :: r, h => by
    have h1 : i < ws.length := h _ (.head _)
    have h2 := pJ_len (its := its) (ws := ws) (js := r) fun p hp => h p (.tail _ hp)
    show ((ws.drop i).take 1 ++ pJ r its ws).length = r.length + 1
    rw [List.length_append, h2, List.length_take, List.length_drop]
    omega
  | (false, i) :: r, h => by
    have h1 : i < its.length := h _ (.head _)
    have h2 := pJ_len (its := its) (ws := ws) (js := r) fun p hp => h p (.tail _ hp)
    show ((its.drop i).take 1 ++ pJ r its ws).length = r.length + 1
    rw [List.length_append, h2, List.length_take, List.length_drop]
    omega
section
variable {B : Bs} {x qual : Str} {params : Arguments} {body : List Stmt} {scope : Scope} {dvs : List V} {kws : List (Str × V)} {f : Addr} {fd : FuncData} {N ps : List Str} {m : Nat}
/-- without defaults -/
theorem bm_key (F : FunD B.K x qual params body scope [] kws f fd) (n : Nat) (ks : List Str) (js : List (Bool × Nat)) (nm : m ≤ n) (hl : n + js.length = ps.length) (hj : ∀ p ∈ js, p.1 = true ∧ p.2 < ks.length)
    (h : ∀ (kV doc pm : Value) (an : Option Addr) (cdv ct : Value) (us ws : List Value), us.length = n → ws.length = ks.length → bindArgs (PySem.W.fnOf x qual params body scope .none kV doc pm an cdv ct) ⟨us, ks.zip ws⟩ = pure (ps.zip (us ++ pJ js [] ws))) :
    BindM B fd ps m ks (fun ds zs => ds.length + m = n ∧ zs.length = ks.length) (fun ds zs => ds ++ pJ js [] zs) := by
  refine bm_kbn (kb0 F n ks (fun us ws => us ++ pJ js [] ws) (fun r1 r2 => r1.append (pJ_vals .nil r2 js)) h) nm fun W pre ds zs vs ws hm hd hz r1 r2 => ?_
  refine ⟨vs ++ pJ js [] ws, List.append_assoc _ _ _, r1.app (pJ_reps .nil r2 js), ?_⟩
  have e := pJ_len (its := ([] : List V)) (ws := ws) (js := js) fun p hp => by rw [if_pos (hj p hp).1, r2.len, hz]; exact (hj p hp).2
  have := r1.len
  rw [List.length_append, List.length_append, e]
  omega
/-- with defaults -/
theorem bm_keyD {dd : List D} (F : FunD B.K x qual params body scope dvs kws f fd) (n : Nat) (ks : List Str) (js : List (Bool × Nat)) (nd : Nat) (hnd : dvs.length = nd) (hd : dvs ≠ []) (nm : m ≤ n) (hl : n + js.length = ps.length) (hj : ∀ p ∈ js, p.2 < (if p.1 = true then ks.length else nd))
    (h : ∀ (T : Addr) (kV doc pm : Value) (an : Option Addr) (cdv ct : Value) (us its ws : List Value), us.length = n → its.length = dvs.length → ws.length = ks.length →
      ∃ k, bindArgs (PySem.W.fnOf x qual params body scope (.ref T) kV doc pm an cdv ct) ⟨us, ks.zip ws⟩ = seqItems? (.ref T) >>= k ∧ k (some its.toArray) = pure (ps.zip (us ++ pJ js its ws))) (hdd : Dfl B.K dd dvs) :
    BindM B fd ps m ks (fun ds zs => ds.length + m = n ∧ zs.length = ks.length) (fun ds zs => ds ++ pJ js dd zs) := by
  obtain ⟨its, kb⟩ := F.kbindsD n ks (fun us its ws => us ++ pJ js its ws) hd (fun r1 r2 r3 => r1.append (pJ_vals r2 r3 js)) h
  refine bm_kbn kb nm fun W pre ds zs vs ws hm hd2 hz r1 r2 => ?_
  refine ⟨vs ++ pJ js dvs ws, List.append_assoc _ _ _, r1.app (pJ_reps (hdd W) r2 js), ?_⟩
  have e := pJ_len (its := dvs) (ws := ws) (js := js) fun p hp => by rw [r2.len, hz, hnd]; exact hj p hp
  have := r1.len
  rw [List.length_append, List.length_append, e]
  omega
end
end Dt

set_option Elab.async false
set_option linter.all false
set_option maxRecDepth 100000
set_option maxHeartbeats 1000000
namespace Toy
open PySem PySem.Spec PyProof.Rows L2 My Dt SX
local macro_rules | `(tactic| walk_at "rg") => `(tactic| first
  | omega
  | ((refine And.intro ?_ (And.intro ?_ (And.intro ?_ ?_))) <;> omega))
local macro_rules | `(tactic| walk_at "ls") => `(tactic| first
  | with_reducible exact ls_v
  | with_reducible exact ls_b
  | ((with_reducible refine' ls_p ?hlp); (case hlp => with_reducible assumption)))
local macro_rules | `(tactic| walk_at "start") => `(tactic| ((simp only [startM, startS, List.map_cons, List.map_nil, List.length_cons, List.length_nil, List.cons_append, List.nil_append, Nat.reduceAdd, Nat.reduceSub, List.replicate_succ, List.replicate_zero]); exact rfl))
local macro_rules | `(tactic| walk_at "set") => `(tactic| first
  | ((dsimp only [Int.reduceToNat, List.set_cons_zero, List.set_cons_succ, VO.sl]); done)
  | ((dsimp only [Int.reduceToNat, List.set_cons_zero, List.set_cons_succ, VO.sl]); exact rfl)
  | exact rfl)
local macro_rules | `(tactic| walk_at "sz") => `(tactic| first
  | exact sz_of (Nat.le_of_ble_eq_true rfl)
  | (apply sz_of; simp only [List.length_cons, List.length_nil, List.length_append, List.length_map]; omega))
local macro_rules | `(tactic| walk_at "side") => `(tactic| first
  | with_reducible assumption
  | omega
  | exact ml (by omega) (by omega)
  | exact mr (by omega) (by omega)
  | exact dv (by omega) (by omega)
  | exact Bd.mulOk (by with_reducible assumption) (by with_reducible assumption) (by decide) (by decide) (by decide)
  | exact Bd.div (by with_reducible assumption) (by omega) (by decide) (by decide)
  | (show (0 : Int) < _; omega)
  | exact ⟨by decide, by decide, by decide⟩
  | decide
  | exact rfl)
local macro_rules | `(tactic| walk_at "st") => `(tactic| first
  | with_reducible refine q_seq ?_
  | with_reducible refine q_end ?_
  | with_reducible refine q_nil ?_
  | with_reducible refine q_asg ?_
  | with_reducible refine q_asg2 ?_
  | with_reducible refine q_ret ?_
  | with_reducible refine q_if ?_
  | with_reducible refine q_expr ?_
  | with_reducible refine q_retN ?_
  | with_reducible refine q_sub ?_
  | with_reducible refine q_for ?_
  | with_reducible refine q_del ?_
  | with_reducible refine q_par ?_
  | with_reducible refine q_par3 ?_
  | with_reducible refine q_parV ?_
  | with_reducible refine q_parV3 ?_
  | with_reducible refine q_asgF ?_
  | with_reducible refine q_asgC ?_
  | ((with_reducible refine' q_frz ?ef ?_); (case ef => exact rfl))
  | ((with_reducible refine' q_app ?ea ?eb ?_); (case ea => exact rfl); (case eb => walk_at "slen"))
  | with_reducible refine q_brk ?_
  | with_reducible refine q_cnt ?_
  | with_reducible refine q_fldS ?_
  | with_reducible refine q_fldP ?_
  | with_reducible refine q_raise ?_
  | with_reducible refine q_try ?_)
local macro_rules | `(tactic| walk_at "slen") => `(tactic| first
  | with_reducible assumption
  | ((rw [sizeLine_eq]); (simp only [List.length_cons, List.length_nil, List.length_append, List.length_map]); omega))
local macro_rules | `(tactic| walk_at "sm") => `(tactic| first
  | with_reducible refine s_add ?_
  | with_reducible refine s_sub ?_
  | ((with_reducible refine' s_mul ?hm ?_); (case hm => walk_at "side"))
  | ((with_reducible refine' s_fdiv ?hm ?_); (case hm => walk_at "side"))
  | ((with_reducible refine' s_mod ?hm ?_); (case hm => walk_at "side"))
  | with_reducible refine s_neg ?_
  | ((with_reducible refine' s_pow ?hm ?_); (case hm => walk_at "side"))
  | ((with_reducible refine' s_ixL ?hl ?he ?_); (case hl => walk_at "ls"); (case he => exact rfl))
  | ((with_reducible refine' s_ixT ?he ?_); (case he => exact rfl))
  | ((with_reducible refine' set_L2 ?ha ?hb ?hc ?_); (case ha => with_reducible assumption); (case hb => exact rfl); (case hc => walk_at "set"))
  | with_reducible refine s_addB ?_
  | with_reducible refine s_lt ?_
  | with_reducible refine s_le ?_
  | with_reducible refine s_gt ?_
  | with_reducible refine s_ge ?_
  | with_reducible refine s_eq ?_
  | with_reducible refine s_ne ?_
  | ((with_reducible refine' s_neSame ?he ?_); (case he => with_reducible rfl))
  | ((with_reducible refine' s_eqSame ?he ?_); (case he => with_reducible rfl))
  | with_reducible refine s_eqS ?_
  | with_reducible refine s_neS ?_
  | with_reducible refine s_isN ?_
  | with_reducible refine s_isNotN ?_
  | with_reducible refine t_bl ?_)
local macro_rules | `(tactic| walk_at "cl") => `(tactic| first
  | with_reducible refine c_int ?_
  | with_reducible refine c_intB ?_
  | with_reducible refine c_abs ?_
  | ((with_reducible refine' c_max ?hm ?_); (case hm => exact rfl))
  | ((with_reducible refine' c_min ?hm ?_); (case hm => exact rfl))
  | ((with_reducible refine' c_divmod ?hm ?_); (case hm => walk_at "side"))
  | ((with_reducible refine' c_len ?hm ?_); (case hm => walk_at "sq"))
  | ((with_reducible refine' c_list ?hm ?_); (case hm => walk_at "sq"))
  | ((with_reducible refine' c_tuple ?hm ?_); (case hm => walk_at "sq")))
local macro_rules | `(tactic| walk_at "sq") => `(tactic| first
  | exact sqL
  | exact sqT
  | exact sqB
  | exact sqP (by with_reducible assumption))
local macro_rules | `(tactic| walk_at "v") => `(tactic| first
  | ((with_reducible refine' v_sh ?ev ?_); (case ev => exact rfl))
  | ((with_reducible refine' v_ol ?ev ?_); (case ev => exact rfl))
  | ((with_reducible refine' v_slf ?ev ?_); (case ev => exact rfl))
  | with_reducible refine q_val ?_
  | ((with_reducible refine' q_walk ?ew ?_); (case ew => exact rfl))
  | ((with_reducible refine' q_rng1 ?ej ?ek ?_); (case ej => walk_at "rg"); (case ek => walk_at "rg"))
  | ((with_reducible refine' q_rng2 ?ej ?_); (case ej => walk_at "rg"))
  | with_reducible refine q_rngL ?_
  | with_reducible refine q_solc ?_
  | with_reducible refine q_sol0 ?_
  | ((with_reducible refine' q_gname ?eg ?_); (case eg => walk_at "set"))
  | ((with_reducible refine' n_set ?eg ?_); (case eg => walk_at "set"))
  | ((with_reducible refine' n_set2 ?eg ?_); (case eg => walk_at "set"))
  | ((with_reducible refine' n_set3 ?eg ?_); (case eg => walk_at "set"))
  | with_reducible refine q_two ?_
  | with_reducible refine q_three ?_
  | with_reducible refine q_vv ?_
  | with_reducible refine q_isS ?_
  | with_reducible refine q_isL ?_
  | with_reducible refine q_twoV ?_
  | with_reducible refine q_threeV ?_
  | with_reducible refine q_bl ?_
  | with_reducible refine q_oint ?_
  | ((with_reducible refine' q_gtup ?el ?_); (case el => exact rfl))
  | with_reducible refine q_gcons ?_
  | with_reducible refine q_gnil ?_
  | with_reducible refine i_t ?_
  | with_reducible refine i_f ?_
  | with_reducible refine i_nt ?_
  | with_reducible refine i_nf ?_
  | ((with_reducible refine' n_t ?en ?_); (case en => exact rfl))
  | ((with_reducible refine' n_f ?en ?_); (case en => exact rfl))
  | ((with_reducible refine' nn_t ?en ?_); (case en => exact rfl))
  | ((with_reducible refine' nn_f ?en ?_); (case en => exact rfl))
  | with_reducible refine And.intro (by walk_at "sz") ?_)
local macro_rules | `(tactic| walk_at "d") => `(tactic| first
  | walk_at "v"
  | walk_at "st"
  | walk_at "sm"
  | walk_at "cl"
  | walk_at "at")
local macro_rules | `(tactic| walk_at "dd") => `(tactic| repeat walk_at "d")
local macro_rules | `(tactic| walk_at "tx") => `(tactic| simp only [l_dash, l_dot, l_nil, l_space, l_figs, l_signs])

variable {P : Program} {w : World} {K : PySem.W.Frag} {mg : Str → Option Value} {base : Heap} {S : Sto} {Ex : XS} {Q : QO}

/-- a stream: what is drawn from -/
def Strm (S : Sto) (n : Nat) : Prop := ∃ a b c : Int, S[n]? = some (.lst [.int a, .int b, .int c]) ∧ 0 ≤ a ∧ a < 2147483587 ∧ 0 ≤ b ∧ b < 2147483399
theorem dv2 {i j : Int} (h1 : 0 < j) (h2 : j < 2 ^ 200) : CDivW i j := wide_div (b := 200) h1 (by omega) (by decide) (by decide)
theorem ok_draw (T : Tx K mg) {S : Sto} {n : Nat} {m : Int} {Ex : XS} {Q : QO} (h : Strm S n) (hm : 0 < m) (hm2 : m < 2 ^ 200) (q : ∀ (v : Int) (S' : Sto), 0 ≤ v → v < m → Strm S' n → Bt n S S' → Q (.v (.int v)) S') :
    sFun (bs P w K mg base) 1 (.ref (He.ga K "_law_draw")) [] [.ptr n, .int m] [] S Ex Q := by
  obtain ⟨a, b, c, e, a1, a2, b1, b2⟩ := h
  refine' call_d (B := bs P w K mg base) 0 (Classical.choose_spec T.d_law_draw) sc_law_draw rfl (bm_all (ps := ["_law_stream_here", "_law_many"]) (Classical.choose_spec T.d_law_draw) (fun _ _ _ _ _ _ us hl => match us, hl with | [_, _], _ => rfl)) (dss_cons (ds_sub (dv 0) de_int (de_bin (de_callT (T := "int") rfl T.f_int (by decide +kernel) (da_cons (de_bin (de_bin (de_ix (dv 0) de_int (fun _ _ => rfl)) de_int) (de_ix (dv 0) de_int (fun _ _ => rfl))) da_nil)) de_int)) (dss_cons (ds_sub (dv 0) de_int (de_bin (de_callT (T := "int") rfl T.f_int (by decide +kernel) (da_cons (de_bin (de_bin (de_ix (dv 0) de_int (fun _ _ => rfl)) de_int) (de_ix (dv 0) de_int (fun _ _ => rfl))) da_nil)) de_int)) (dss_cons (ds_if (dt_cmp (de_ix (dv 0) de_int (fun _ _ => rfl)) de_int) (dss_cons (dst 2 (de_bin (de_callT (T := "int") rfl T.f_int (by decide +kernel) (da_cons (de_ix (dv 0) de_int (fun _ _ => rfl)) da_nil)) (dv 1))) (dss_cons (ds_sub (dv 0) de_int (de_bin (de_callT (T := "int") rfl T.f_int (by decide +kernel) (da_cons (de_ix (dv 0) de_int (fun _ _ => rfl)) da_nil)) (dv 1))) (dss_one (ds_ret (dv 2))))) dss_nil) (dss_one (ds_ret (de_bin (de_callT (T := "int") rfl T.f_int (by decide +kernel) (da_cons (de_bin (de_bin (de_ix (dv 0) de_int (fun _ _ => rfl)) de_int) (de_bin (de_ix (dv 0) de_int (fun _ _ => rfl)) de_int)) da_nil)) (dv 1))))))) ⟨rfl, rfl⟩ ?st ?_
  case st => walk_at "start"
  have hd : CDivW c m := dv2 hm hm2
  walk_at "dd"
  intro S1 e1 s1
  clear e
  have r1 := Int.emod_nonneg (a * 48271 + b) (show (2147483587 : Int) ≠ 0 by decide)
  have r2 := Int.emod_lt_of_pos (a * 48271 + b) (show (0 : Int) < 2147483587 by decide)
  generalize (a * 48271 + b) % 2147483587 = x at e1 r1 r2
  walk_at "dd"
  intro S2 e2 s2
  clear e1
  have t1 := Int.emod_nonneg (b * 39373 + x) (show (2147483399 : Int) ≠ 0 by decide)
  have t2 := Int.emod_lt_of_pos (b * 39373 + x) (show (0 : Int) < 2147483399 by decide)
  generalize (b * 39373 + x) % 2147483399 = y at e2 t1 t2
  have s12 := s1.trans s2
  have p2 : Strm S2 n := ⟨x, y, c, e2, r1, r2, t1, t2⟩
  walk_at "dd"
  refine i_two (fun h0 => ?_) fun h0 => ?_
  · walk_at "dd"
    intro S3 e3 s3
    walk_at "dd"
    exact q _ S3 (Int.emod_nonneg c (by omega)) (Int.emod_lt_of_pos c hm) ⟨x, y, c / m, e3, r1, r2, t1, t2⟩ (s12.trans s3)
  · walk_at "dd"
    exact q _ S2 (Int.emod_nonneg _ (by omega)) (Int.emod_lt_of_pos _ hm) p2 s12
theorem ok_stream (T : Tx K mg) {ns : List Int} {p : Nat} (hl : ns.length ≤ 63) (hp : p ≤ 63) (q : ∀ c : Cell, Strm (S ++ [c]) S.length → Q (.v (.ptr S.length)) (S ++ [c])) : sFun (bs P w K mg base) 1 (.ref (He.ga K "_law_stream")) [] [.lsk (ns.map .int), .int p] [] S Ex Q := by
  refine' call_d (B := bs P w K mg base) 0 (Classical.choose_spec T.d_law_stream) sc_law_stream rfl (bm_all (ps := ["_law_script", "_law_at"]) (Classical.choose_spec T.d_law_stream) (fun _ _ _ _ _ _ us hl => match us, hl with | [_, _], _ => rfl)) (dss_cons (dst 2 (de_if (dt_cmp (dv 1) (de_callB (id := "len") rfl T.f_len (by decide +kernel) (da_cons (dv 0) da_nil))) (de_ix (dv 0) (dv 1) (fun _ _ => rfl)) (de_bin de_int (de_bin (dv 1) de_int)))) (dss_cons (ds_par (i := 3) (j := 4) rfl rfl rfl (by decide) rfl rfl (da_cons (de_bin (de_callT (T := "int") rfl T.f_int (by decide +kernel) (da_cons (dv 2) da_nil)) de_int) (da_cons (de_bin de_int (dv 1)) da_nil)) (fun env h => by cases env; cases h; rfl)) (dss_cons (ds_for rfl rfl (di_val (de_sl (dv 0) do_no (do_some de_int))) (dgn 5) (dss_cons (dst 3 (de_bin (de_callT (T := "int") rfl T.f_int (by decide +kernel) (da_cons (de_bin (de_bin (dv 3) de_int) (dv 4)) da_nil)) de_int)) (dss_one (dst 4 (de_bin (de_callT (T := "int") rfl T.f_int (by decide +kernel) (da_cons (de_bin (de_bin (dv 4) de_int) (dv 5)) da_nil)) de_int))))) (dss_one (ds_ret (de_lstP (da_cons (dv 3) (da_cons (dv 4) (da_cons (de_if (dt_cmp (de_callB (id := "abs") rfl T.f_abs (by decide +kernel) (da_cons (dv 2) da_nil)) (de_bin de_int de_int)) (de_callB (id := "abs") rfl T.f_abs (by decide +kernel) (da_cons (dv 2) da_nil)) de_int) da_nil))))))))) ⟨rfl, rfl⟩ ?st ?_
  case st => walk_at "start"
  walk_at "dd"
  refine c_lenX ?_
  rw [List.length_map]
  walk_at "dd"
  have ci : ∀ x ∈ Dt.cutD (ns.map D.int) none (some 5), ∃ i, x = .int i := fun x hx => by
    obtain ⟨i, _, e⟩ := List.mem_map.mp (List.mem_of_mem_drop (List.mem_of_mem_take hx))
    exact ⟨i, e.symm⟩
  refine i_two (fun h0 => ?_) fun h0 => ?_
  · have hp2 : p < ns.length := by omega
    walk_at "dd"
    refine s_ixX (d := .int (ns.getD p 0)) ?_ ?_
    · refine L2.atI_nat ?_
      rw [List.getElem?_map, List.getD_eq_getElem?_getD, List.getElem?_eq_getElem hp2] <;> rfl
    generalize ns.getD p 0 = c
    walk_at "dd"
    refine s_slX (.inl ?_)
    generalize Dt.cutD (ns.map D.int) none (some 5) = xs at ci
    walk_at "dd"
    have m1 := Int.emod_nonneg c (show (2147483587 : Int) ≠ 0 by decide)
    have m2 := Int.emod_lt_of_pos c (show (0 : Int) < 2147483587 by decide)
    refine loop_inv (fun i ρ S' => S' = S ∧ ∃ (a b : Int) (x5 : Sl), 0 ≤ a ∧ a < 2147483587 ∧ 0 ≤ b ∧ b < 2147483399 ∧ ρ = [.sh (.lsk (ns.map .int)), .sh (.int p), .sh (.int c), .sh (.int a), .sh (.int b), x5]) ⟨rfl, _, _, _, m1, m2, ?_, ?_, rfl⟩ ?_ ?_
    · omega
    · omega
    · rintro i x ρ S' Nx hx ⟨rfl, a, b, x5, a0, a1, b0, b1, rfl⟩ hN
      obtain ⟨j, rfl⟩ := ci x (List.mem_of_getElem? hx)
      walk_at "dd"
      exact hN _ _ ⟨rfl, _, _, _, Int.emod_nonneg _ (by decide), Int.emod_lt_of_pos _ (by decide), Int.emod_nonneg _ (by decide), Int.emod_lt_of_pos _ (by decide), rfl⟩
    · rintro ρ S' ⟨rfl, a, b, x5, a0, a1, b0, b1, rfl⟩
      have fin : ∀ v : Int, Q (.v (.ptr S'.length)) (S' ++ [.lst [.int a, .int b, .int v]]) := fun v => q _ ⟨a, b, v, List.getElem?_concat_length, a0, a1, b0, b1⟩
      walk_at "dd"
      refine i_two (fun h1 => ?_) fun h1 => ?_
      · walk_at "dd"
        exact fin _
      · walk_at "dd"
        exact fin _
  · walk_at "dd"
    refine s_slX (.inl ?_)
    generalize Dt.cutD (ns.map D.int) none (some 5) = xs at ci
    walk_at "dd"
    have m1 := Int.emod_nonneg (7919 * ((p : Int) + 2)) (show (2147483587 : Int) ≠ 0 by decide)
    have m2 := Int.emod_lt_of_pos (7919 * ((p : Int) + 2)) (show (0 : Int) < 2147483587 by decide)
    refine loop_inv (fun i ρ S' => S' = S ∧ ∃ (a b : Int) (x5 : Sl), 0 ≤ a ∧ a < 2147483587 ∧ 0 ≤ b ∧ b < 2147483399 ∧ ρ = [.sh (.lsk (ns.map .int)), .sh (.int p), .sh (.int (7919 * ((p : Int) + 2))), .sh (.int a), .sh (.int b), x5]) ⟨rfl, _, _, _, m1, m2, ?_, ?_, rfl⟩ ?_ ?_
    · omega
    · omega
    · rintro i x ρ S' Nx hx ⟨rfl, a, b, x5, a0, a1, b0, b1, rfl⟩ hN
      obtain ⟨j, rfl⟩ := ci x (List.mem_of_getElem? hx)
      walk_at "dd"
      exact hN _ _ ⟨rfl, _, _, _, Int.emod_nonneg _ (by decide), Int.emod_lt_of_pos _ (by decide), Int.emod_nonneg _ (by decide), Int.emod_lt_of_pos _ (by decide), rfl⟩
    · rintro ρ S' ⟨rfl, a, b, x5, a0, a1, b0, b1, rfl⟩
      have fin : ∀ v : Int, Q (.v (.ptr S'.length)) (S' ++ [.lst [.int a, .int b, .int v]]) := fun v => q _ ⟨a, b, v, List.getElem?_concat_length, a0, a1, b0, b1⟩
      walk_at "dd"
      refine i_two (fun h1 => ?_) fun h1 => ?_
      · walk_at "dd"
        exact fin _
      · walk_at "dd"
        exact fin _
end Toy

set_option Elab.async false
set_option linter.all false
set_option maxRecDepth 100000
set_option maxHeartbeats 4000000
namespace Toy
open PySem PySem.Spec PyProof.Rows L2 My Dt He SX
local macro_rules | `(tactic| walk_at "ne") => `(tactic| first
  | with_reducible assumption
  | exact Ne.symm (by with_reducible assumption)
  | (refine' ne_of_none ?hx ?hy; (case hy => with_reducible assumption); (case hx => walk_at "hf"))
  | (refine' Ne.symm (ne_of_none ?hx ?hy); (case hy => with_reducible assumption); (case hx => walk_at "hf"))
  | (refine' Pu.ne ?hx ?hy; (case hy => with_reducible assumption); (case hx => walk_at "pu")))
local macro_rules | `(tactic| walk_at "pu") => `(tactic| first
  | with_reducible assumption
  | ((with_reducible refine' Pu.same ?hx ?hy); (case hy => with_reducible assumption); (case hx => walk_at "pu")))
local macro_rules | `(tactic| walk_at "hf") => `(tactic| first
  | with_reducible assumption
  | with_reducible exact upd_same
  | ((with_reducible refine' Same.at ?hs ?hr); (case hs => with_reducible assumption); (case hr => walk_at "hf"))
  | ((with_reducible refine' at_or ?hr ?hn); (case hr => walk_at "hf"); (case hn => first | exact Or.inl (by with_reducible assumption) | exact Or.inr (by walk_at "ne")))
  | ((with_reducible refine' But.at ?hb ?hn ?hr); (case hb => with_reducible assumption); (case hr => walk_at "hf"); (case hn => walk_at "ne")))
local macro_rules | `(tactic| walk_at "sq") => `(tactic| first
  | with_reducible assumption
  | ((with_reducible refine' SqL.of ?hql); (case hql => walk_at "hf"))
  | ((with_reducible refine' Same.seq ?hx ?hy); (case hx => with_reducible assumption); (case hy => walk_at "sq")))
local macro_rules | `(tactic| walk_at "sqo") => `(tactic| first
  | ((with_reducible refine' Or.inl ?hol); (case hol => with_reducible assumption))
  | ((with_reducible refine' Or.inr ?hor); (case hor => with_reducible assumption))
  | ((with_reducible refine' Or.inl (SqL.of ?hol)); (case hol => walk_at "hf"))
  | ((with_reducible refine' Or.inr (SqT.of ?hor)); (case hor => walk_at "hf"))
  | ((with_reducible refine' Or.inl ?hol); (case hol => walk_at "sq"))
  | ((with_reducible refine' Or.inr ?hor); (case hor => walk_at "sqt")))
local macro_rules | `(tactic| walk_at "sqt") => `(tactic| first
  | with_reducible assumption
  | ((with_reducible refine' SqT.of ?hqt); (case hqt => walk_at "hf"))
  | ((with_reducible refine' tupS ?hx ?hy); (case hy => with_reducible assumption); (case hx => walk_at "sqt")))
local macro_rules | `(tactic| walk_at "lg") => `(tactic| first
  | with_reducible assumption
  | exact Bd.lg (by with_reducible assumption) (by decide) (by decide)
  | exact Bd.lg (Bd.of (b := 100) (by omega) (by omega)) (by decide) (by decide))
local macro_rules | `(tactic| walk_at "len") => `(tactic| first
  | with_reducible assumption
  | ((simp only [txt_int, lcat, S_len, List.length_append, List.length_cons, List.length_nil]); omega)
  | (apply of_decide_eq_true; rfl))
local macro_rules | `(tactic| walk_at "side") => `(tactic| first
  | with_reducible assumption
  | omega
  | exact ml (by omega) (by omega)
  | exact mr (by omega) (by omega)
  | exact dv (by omega) (by omega)
  | exact Bd.mulOk (by with_reducible assumption) (by with_reducible assumption) (by decide) (by decide) (by decide)
  | exact Bd.div (by with_reducible assumption) (by omega) (by decide) (by decide)
  | (show (0 : Int) < _; omega)
  | decide
  | exact ni_non
  | exact rfl
  | ((simp only [List.length_cons, List.length_nil, List.length_map]); omega))
local macro_rules | `(tactic| walk_at "nl") => `(tactic| first
  | ((simp only [List.length_cons, List.length_nil, List.length_map, List.length_append]); omega)
  | omega
  | decide
  | exact Nat.le_of_ble_eq_true rfl)
local macro_rules | `(tactic| walk_at "sn") => `(tactic| first
  | with_reducible refine r_tupN ?_
  | with_reducible refine r_lstN ?_
  | with_reducible refine r_dnewN ?_
  | ((with_reducible refine' r_listN ?hh ?_); (case hh => walk_at "sqo"))
  | ((with_reducible refine' r_tupleN ?hh ?_); (case hh => walk_at "sq"))
  | ((with_reducible refine' r_slLN ?hh ?_); (case hh => walk_at "sq"))
  | ((with_reducible refine' r_catN ?hh ?hg ?hz ?_); (case hh => walk_at "hf"); (case hg => walk_at "hf"); (case hz => walk_at "nl"))
  | ((with_reducible refine' r_repN ?hh ?h2 ?h3 ?h4 ?_); (case hh => walk_at "hf"); (case h2 => walk_at "side"); (case h3 => walk_at "nl"); (case h4 => walk_at "side")))
local macro_rules | `(tactic| walk_at "st") => `(tactic| first
  | walk_at "sn"
  | ((with_reducible refine' r_var ?hh ?_); (case hh => rfl))
  | with_reducible refine r_c ?_
  | with_reducible refine r_op ?_
  | with_reducible refine r_i0 ?_
  | with_reducible refine r_cons ?_
  | with_reducible refine r_nil ?_
  | with_reducible refine r_seq ?_
  | with_reducible refine r_asg ?_
  | with_reducible refine r_gname ?_
  | with_reducible refine r_ret ?_
  | with_reducible refine r_ifS ?_
  | with_reducible refine r_test ?_
  | with_reducible refine r_tB ?_
  | with_reducible refine b_bl ?_
  | with_reducible refine i_t ?_
  | with_reducible refine i_f ?_
  | with_reducible refine i_nt ?_
  | with_reducible refine i_nf ?_
  | ((with_reducible refine' i_pos ?hh ?_); (case hh => walk_at "side"))
  | ((with_reducible refine' i_neg ?hh ?_); (case hh => walk_at "side"))
  | ((with_reducible refine' n_pos ?hh ?_); (case hh => walk_at "side"))
  | ((with_reducible refine' n_neg ?hh ?_); (case hh => walk_at "side"))
  | ((with_reducible refine' r_pow ?hh ?he ?_); (case hh => first | exact ⟨by decide, by decide, by decide⟩ | exact ⟨by decide, by decide, by omega⟩); (case he => first | ((simp only [Int.reduceToNat, Int.reducePow]); done) | ((simp only [Int.reduceToNat, Int.reducePow]); rfl) | rfl))
  | ((with_reducible refine' r_i ?hh ?_); (case hh => walk_at "side"))
  | with_reducible refine r_call0 ?_
  | with_reducible refine r_call ?_
  | with_reducible refine r_cb ?_
  | with_reducible refine r_int ?_
  | ((with_reducible refine' r_strI ?hh ?_); (case hh => walk_at "lg"))
  | with_reducible refine r_i1 ?_
  | with_reducible refine r_i2 ?_
  | with_reducible refine r_par ?_
  | with_reducible refine r_two ?_
  | with_reducible refine r_par3 ?_
  | with_reducible refine r_three ?_
  | with_reducible refine r_and ?_
  | with_reducible refine r_or ?_
  | with_reducible refine r_not ?_
  | with_reducible refine r_tif ?_
  | with_reducible refine r_andV ?_
  | with_reducible refine r_orV ?_
  | with_reducible refine r_notV ?_
  | with_reducible refine r_un ?_
  | with_reducible refine r_u ?_
  | with_reducible refine r_sb ?_
  | with_reducible refine r_drop ?_
  | with_reducible refine r_next ?_
  | with_reducible refine r_gsub ?_
  | ((with_reducible refine' r_ixL ?hh ?he ?_); (case hh => walk_at "sq"); (case he => rfl))
  | ((with_reducible refine' r_ixT ?hh ?he ?_); (case hh => walk_at "sqt"); (case he => rfl))
  | ((with_reducible refine' r_setL ?hh ?he ?_); (case hh => walk_at "hf"); (case he => rfl))
  | with_reducible refine r_gcons ?_
  | with_reducible refine r_gnil ?_
  | with_reducible refine r_sl ?_
  | with_reducible refine r_nopart ?_
  | with_reducible refine r_part ?_
  | with_reducible refine r_pint ?_
  | ((with_reducible refine' r_lenS ?hh ?_); (case hh => walk_at "sqo"))
  | ((with_reducible refine' r_gtup ?hh ?he ?_); (case hh => walk_at "sqt"); (case he => rfl))
  | ((with_reducible refine' r_slL ?hh ?_); (case hh => walk_at "sq"))
  | ((with_reducible refine' r_len ?hh ?_); (case hh => exact sz (by (try simp only [List.length_map]); (first | omega | decide | exact Nat.le_of_ble_eq_true rfl))))
  | with_reducible refine r_isi_ii ?_
  | with_reducible refine r_isi_ib ?_
  | with_reducible refine r_isi_ss ?_
  | ((with_reducible refine' r_isi_own ?hh ?hi ?hk ?_); (case hh => walk_at "hf"); (case hi => with_reducible assumption); (case hk => with_reducible assumption))
  | with_reducible refine r_lst ?_
  | with_reducible refine r_tup ?_
  | with_reducible refine r_make ?_
  | with_reducible refine r_forR1 ?_
  | with_reducible refine r_forL ?_
  | with_reducible refine r_forT ?_
  | with_reducible refine r_forR2 ?_
  | with_reducible refine r_ref1 ?_
  | with_reducible refine r_brk ?_
  | with_reducible refine r_cont ?_
  | with_reducible refine r_retN ?_
  | with_reducible refine r_rr ?_
  | with_reducible refine r_fmt ?_
  | ((with_reducible refine' r_fmti ?hh ?_); (case hh => walk_at "lg"))
  | with_reducible refine r_js ?_
  | with_reducible refine r_js0 ?_
  | ((with_reducible refine' r_jsp ?hh ?_); (case hh => walk_at "len"))
  | with_reducible refine r_m0 ?_
  | with_reducible refine r_m1 ?_
  | with_reducible refine r_str ?_
  | with_reducible refine r_ss ?_
  | with_reducible refine r_s0 ?_
  | ((with_reducible refine' r_addS ?hh ?_); (case hh => walk_at "len"))
  | ((with_reducible refine' r_slS ?hh ?_); (case hh => walk_at "len"))
  | ((with_reducible refine' r_lenT ?hh ?_); (case hh => walk_at "len"))
  | ((with_reducible refine' r_memI ?hh ?_); (case hh => with_reducible assumption))
  | with_reducible refine r_eqB ?_
  | ((with_reducible refine' r_inT ?hh ?hf ?he ?_); (case hh => walk_at "sqt"); (case hf => rfl); (case he => rfl))
  | ((with_reducible refine' r_inF ?hh ?hf ?he ?_); (case hh => walk_at "sqt"); (case hf => rfl); (case he => rfl))
  | ((with_reducible refine' r_makeL ?hh ?_); (case hh => rfl))
  | with_reducible refine r_tprop ?_
  | with_reducible refine r_tfld ?_
  | ((with_reducible refine' f_prop ?hh ?_); (case hh => walk_at "hf"))
  | ((with_reducible refine' f_fld ?hh ?hc ?hn ?hl ?_); (case hh => walk_at "hf"); (case hc => with_reducible assumption); (case hn => with_reducible assumption); (case hl => rfl))
  | with_reducible refine r_tcm ?_
  | with_reducible refine r_chain ?_
  | with_reducible refine r_chain3 ?_
  | with_reducible refine r_bl1 ?_
  | with_reducible refine r_intb ?_
  | with_reducible refine r_yes ?_
  | with_reducible refine r_makeK ?_
  | with_reducible refine r_sfld ?_
  | ((with_reducible refine' f_sfld ?hh ?hc ?hn ?hl ?_); (case hh => walk_at "hf"); (case hc => with_reducible assumption); (case hn => with_reducible assumption); (case hl => exact Nat.le_of_ble_eq_true rfl))
  | with_reducible refine r_lcL ?_
  | with_reducible refine r_lcS ?_
  | with_reducible refine r_lcT ?_
  | with_reducible refine r_lcR1 ?_
  | with_reducible refine r_lcR2 ?_
  | with_reducible refine r_tbm ?_
  | with_reducible refine r_tbm0 ?_
  | ((with_reducible refine' f_tyL ?hh ?_); (case hh => walk_at "hf"))
  | ((with_reducible refine' r_app ?hh ?he ?_); (case hh => walk_at "hf"); (case he => walk_at "side"))
  | with_reducible refine r_tRev ?_
  | with_reducible refine r_lstRg1 ?_
  | with_reducible refine r_lcRV ?_
  | with_reducible refine r_makeS ?_
  | with_reducible refine r_cmS ?_
  | with_reducible refine r_methS ?_
  | with_reducible refine r_tupRg1 ?_
  | with_reducible refine r_forRV ?_
  | with_reducible refine r_raiseE ?_
  | with_reducible refine r_callG ?_
  | ((with_reducible refine' r_xfV ?hh ?hf ?hl ?_); (case hh => rfl); (case hf => walk_at "hf"); (case hl => rfl)))
local macro_rules | `(tactic| walk_at "go") => `(tactic| (repeat walk_at "st"))
local macro_rules | `(tactic| walk_at "in") => `(tactic| dsimp only [cxOf, L2.start, List.map, List.length, List.replicate, Nat.reduceSub, Nat.reduceAdd, List.cons_append, List.nil_append, List.append_nil])
local macro_rules | `(tactic| walk_at "bt") => `(tactic| first
  | with_reducible assumption
  | exact But.rfl
  | exact Same.but (by with_reducible assumption)
  | (refine' But.put ?ha; (case ha => walk_at "bt"))
  | (refine' But.new ?ha ?hn; (case hn => with_reducible assumption); (case ha => walk_at "bt"))
  | (refine' But.trans ?ha ?hb; (case hb => with_reducible assumption); (case ha => walk_at "bt"))
  | (refine' But.trans ?ha (Same.but ?hb); (case hb => with_reducible assumption); (case ha => walk_at "bt")))
local macro_rules | `(tactic| walk_at "sm") => `(tactic| first
  | with_reducible assumption
  | exact Same.refl _
  | (refine' Same.new ?ha ?hn; (case hn => with_reducible assumption); (case ha => walk_at "sm"))
  | (refine' Same.trans ?ha ?hb; (case hb => with_reducible assumption); (case ha => walk_at "sm")))

variable {P : Program} {w : World} {K : PySem.W.Frag} {mg : Str → Option Value} {base : Heap}
theorem in_InvalidNumber (T : Tx K mg) : FnOk P w K mg base CX0 1 (He.ma K (He.ga K "InvalidNumber") "__init__") (Classical.choose T.d_InvalidNumber__init) ["self", "number"] (spErr (He.ga K "InvalidNumber") "number") := by
  have F := Classical.choose_spec T.d_InvalidNumber__init
  have er := T.er_InvalidNumber
  refine fnR F sc_InvalidNumber__init (fun vs H Q E h => ?_) (fun cdv A outer s H vs Q E hr h => ?_)
  · obtain ⟨a, v, rfl, _⟩ := h
    rfl
  obtain ⟨a, v, rfl, ha, k⟩ := h
  refine ⟨_, PSs.nox (pss_one (ps_ostG (pv 0) (pv 1))), ?_⟩
  walk_at "in"
  refine ⟨v, rfl, .ref a, rfl, a, _, rfl, er.ox, T.no_InvalidNumber, .inl ⟨ha, fun dx h1 h2 => ?_⟩⟩
  exact k dx h1 h2
theorem inB_InvalidNumber (T : Tx K mg) : Binds K (Classical.choose T.d_InvalidNumber__init) ["self", "number"] [] := (Classical.choose_spec T.d_InvalidNumber__init).bindsN (fun _ _ _ _ _ _ us hl => match us, hl with | [_, _], _ => rfl)
theorem er_InvalidNumber (T : Tx K mg) : ErD (bs P w K mg base) "InvalidNumber" ["number"] := erd_one T.er_InvalidNumber T.g_InvalidNumber (in_InvalidNumber T) (inB_InvalidNumber T)
theorem in_InvalidMarked (T : Tx K mg) : FnOk P w K mg base CX0 1 (He.ma K (He.ga K "InvalidMarked") "__init__") (Classical.choose T.d_InvalidMarked__init) ["self", "value"] (spErr (He.ga K "InvalidMarked") "value") := by
  have F := Classical.choose_spec T.d_InvalidMarked__init
  have er := T.er_InvalidMarked
  refine fnR F sc_InvalidMarked__init (fun vs H Q E h => ?_) (fun cdv A outer s H vs Q E hr h => ?_)
  · obtain ⟨a, v, rfl, _⟩ := h
    rfl
  obtain ⟨a, v, rfl, ha, k⟩ := h
  refine ⟨_, PSs.nox (pss_one (ps_ostG (pv 0) (pv 1))), ?_⟩
  walk_at "in"
  refine ⟨v, rfl, .ref a, rfl, a, _, rfl, er.ox, T.no_InvalidMarked, .inl ⟨ha, fun dx h1 h2 => ?_⟩⟩
  exact k dx h1 h2
theorem inB_InvalidMarked (T : Tx K mg) : Binds K (Classical.choose T.d_InvalidMarked__init) ["self", "value"] [] := (Classical.choose_spec T.d_InvalidMarked__init).bindsN (fun _ _ _ _ _ _ us hl => match us, hl with | [_, _], _ => rfl)
theorem er_InvalidMarked (T : Tx K mg) : ErD (bs P w K mg base) "InvalidMarked" ["value"] := erd_one T.er_InvalidMarked T.g_InvalidMarked (in_InvalidMarked T) (inB_InvalidMarked T)
theorem in_UnknownRow (T : Tx K mg) : FnOk P w K mg base CX0 1 (He.ma K (He.ga K "UnknownRow") "__init__") (Classical.choose T.d_UnknownRow__init) ["self", "key"] (spErr (He.ga K "UnknownRow") "key") := by
  have F := Classical.choose_spec T.d_UnknownRow__init
  have er := T.er_UnknownRow
  refine fnR F sc_UnknownRow__init (fun vs H Q E h => ?_) (fun cdv A outer s H vs Q E hr h => ?_)
  · obtain ⟨a, v, rfl, _⟩ := h
    rfl
  obtain ⟨a, v, rfl, ha, k⟩ := h
  refine ⟨_, PSs.nox (pss_one (ps_ostG (pv 0) (pv 1))), ?_⟩
  walk_at "in"
  refine ⟨v, rfl, .ref a, rfl, a, _, rfl, er.ox, T.no_UnknownRow, .inl ⟨ha, fun dx h1 h2 => ?_⟩⟩
  exact k dx h1 h2
theorem inB_UnknownRow (T : Tx K mg) : Binds K (Classical.choose T.d_UnknownRow__init) ["self", "key"] [] := (Classical.choose_spec T.d_UnknownRow__init).bindsN (fun _ _ _ _ _ _ us hl => match us, hl with | [_, _], _ => rfl)
theorem er_UnknownRow (T : Tx K mg) : ErD (bs P w K mg base) "UnknownRow" ["key"] := erd_one T.er_UnknownRow T.g_UnknownRow (in_UnknownRow T) (inB_UnknownRow T)
theorem in_KnownRow (T : Tx K mg) : FnOk P w K mg base CX0 1 (He.ma K (He.ga K "KnownRow") "__init__") (Classical.choose T.d_KnownRow__init) ["self", "key"] (spErr (He.ga K "KnownRow") "key") := by
  have F := Classical.choose_spec T.d_KnownRow__init
  have er := T.er_KnownRow
  refine fnR F sc_KnownRow__init (fun vs H Q E h => ?_) (fun cdv A outer s H vs Q E hr h => ?_)
  · obtain ⟨a, v, rfl, _⟩ := h
    rfl
  obtain ⟨a, v, rfl, ha, k⟩ := h
  refine ⟨_, PSs.nox (pss_one (ps_ostG (pv 0) (pv 1))), ?_⟩
  walk_at "in"
  refine ⟨v, rfl, .ref a, rfl, a, _, rfl, er.ox, T.no_KnownRow, .inl ⟨ha, fun dx h1 h2 => ?_⟩⟩
  exact k dx h1 h2
theorem inB_KnownRow (T : Tx K mg) : Binds K (Classical.choose T.d_KnownRow__init) ["self", "key"] [] := (Classical.choose_spec T.d_KnownRow__init).bindsN (fun _ _ _ _ _ _ us hl => match us, hl with | [_, _], _ => rfl)
theorem er_KnownRow (T : Tx K mg) : ErD (bs P w K mg base) "KnownRow" ["key"] := erd_one T.er_KnownRow T.g_KnownRow (in_KnownRow T) (inB_KnownRow T)
theorem in_SameRank (T : Tx K mg) : FnOk P w K mg base CX0 1 (He.ma K (He.ga K "SameRank") "__init__") (Classical.choose T.d_SameRank__init) ["self", "rank"] (spErr (He.ga K "SameRank") "rank") := by
  have F := Classical.choose_spec T.d_SameRank__init
  have er := T.er_SameRank
  refine fnR F sc_SameRank__init (fun vs H Q E h => ?_) (fun cdv A outer s H vs Q E hr h => ?_)
  · obtain ⟨a, v, rfl, _⟩ := h
    rfl
  obtain ⟨a, v, rfl, ha, k⟩ := h
  refine ⟨_, PSs.nox (pss_one (ps_ostG (pv 0) (pv 1))), ?_⟩
  walk_at "in"
  refine ⟨v, rfl, .ref a, rfl, a, _, rfl, er.ox, T.no_SameRank, .inl ⟨ha, fun dx h1 h2 => ?_⟩⟩
  exact k dx h1 h2
theorem inB_SameRank (T : Tx K mg) : Binds K (Classical.choose T.d_SameRank__init) ["self", "rank"] [] := (Classical.choose_spec T.d_SameRank__init).bindsN (fun _ _ _ _ _ _ us hl => match us, hl with | [_, _], _ => rfl)
theorem er_SameRank (T : Tx K mg) : ErD (bs P w K mg base) "SameRank" ["rank"] := erd_one T.er_SameRank T.g_SameRank (in_SameRank T) (inB_SameRank T)
end Toy

set_option Elab.async false
set_option linter.all false
set_option maxRecDepth 100000
set_option maxHeartbeats 1000000
namespace Toy
open PySem PySem.Spec PyProof.Rows L2 My Dt SX
local macro_rules | `(tactic| walk_at "rg") => `(tactic| first
  | omega
  | ((refine And.intro ?_ (And.intro ?_ (And.intro ?_ ?_))) <;> omega))
local macro_rules | `(tactic| walk_at "ls") => `(tactic| first
  | with_reducible exact ls_v
  | with_reducible exact ls_b
  | ((with_reducible refine' ls_p ?hlp); (case hlp => with_reducible assumption)))
local macro_rules | `(tactic| walk_at "start") => `(tactic| ((simp only [startM, startS, List.map_cons, List.map_nil, List.length_cons, List.length_nil, List.cons_append, List.nil_append, Nat.reduceAdd, Nat.reduceSub, List.replicate_succ, List.replicate_zero]); exact rfl))
local macro_rules | `(tactic| walk_at "set") => `(tactic| first
  | ((dsimp only [Int.reduceToNat, List.set_cons_zero, List.set_cons_succ, VO.sl]); done)
  | ((dsimp only [Int.reduceToNat, List.set_cons_zero, List.set_cons_succ, VO.sl]); exact rfl)
  | exact rfl)
local macro_rules | `(tactic| walk_at "sz") => `(tactic| first
  | exact sz_of (Nat.le_of_ble_eq_true rfl)
  | (apply sz_of; simp only [List.length_cons, List.length_nil, List.length_append, List.length_map]; omega))
local macro_rules | `(tactic| walk_at "side") => `(tactic| first
  | with_reducible assumption
  | omega
  | exact ml (by omega) (by omega)
  | exact mr (by omega) (by omega)
  | exact dv (by omega) (by omega)
  | exact Bd.mulOk (by with_reducible assumption) (by with_reducible assumption) (by decide) (by decide) (by decide)
  | exact Bd.div (by with_reducible assumption) (by omega) (by decide) (by decide)
  | (show (0 : Int) < _; omega)
  | exact ⟨by decide, by decide, by decide⟩
  | decide
  | exact rfl)
local macro_rules | `(tactic| walk_at "st") => `(tactic| first
  | with_reducible refine q_seq ?_
  | with_reducible refine q_end ?_
  | with_reducible refine q_nil ?_
  | with_reducible refine q_asg ?_
  | with_reducible refine q_asg2 ?_
  | with_reducible refine q_ret ?_
  | with_reducible refine q_if ?_
  | with_reducible refine q_expr ?_
  | with_reducible refine q_retN ?_
  | with_reducible refine q_sub ?_
  | with_reducible refine q_for ?_
  | with_reducible refine q_del ?_
  | with_reducible refine q_par ?_
  | with_reducible refine q_par3 ?_
  | with_reducible refine q_parV ?_
  | with_reducible refine q_parV3 ?_
  | with_reducible refine q_asgF ?_
  | with_reducible refine q_asgC ?_
  | ((with_reducible refine' q_frz ?ef ?_); (case ef => exact rfl))
  | ((with_reducible refine' q_app ?ea ?eb ?_); (case ea => exact rfl); (case eb => walk_at "slen"))
  | with_reducible refine q_brk ?_
  | with_reducible refine q_cnt ?_
  | with_reducible refine q_fldS ?_
  | with_reducible refine q_fldP ?_
  | with_reducible refine q_raise ?_
  | with_reducible refine q_try ?_)
local macro_rules | `(tactic| walk_at "slen") => `(tactic| first
  | with_reducible assumption
  | ((rw [sizeLine_eq]); (simp only [List.length_cons, List.length_nil, List.length_append, List.length_map]); omega))
local macro_rules | `(tactic| walk_at "sm") => `(tactic| first
  | with_reducible refine s_add ?_
  | with_reducible refine s_sub ?_
  | ((with_reducible refine' s_mul ?hm ?_); (case hm => walk_at "side"))
  | ((with_reducible refine' s_fdiv ?hm ?_); (case hm => walk_at "side"))
  | ((with_reducible refine' s_mod ?hm ?_); (case hm => walk_at "side"))
  | with_reducible refine s_neg ?_
  | ((with_reducible refine' s_pow ?hm ?_); (case hm => walk_at "side"))
  | ((with_reducible refine' s_ixL ?hl ?he ?_); (case hl => walk_at "ls"); (case he => exact rfl))
  | ((with_reducible refine' s_ixT ?he ?_); (case he => exact rfl))
  | ((with_reducible refine' set_L2 ?ha ?hb ?hc ?_); (case ha => with_reducible assumption); (case hb => exact rfl); (case hc => walk_at "set"))
  | with_reducible refine s_addB ?_
  | with_reducible refine s_lt ?_
  | with_reducible refine s_le ?_
  | with_reducible refine s_gt ?_
  | with_reducible refine s_ge ?_
  | with_reducible refine s_eq ?_
  | with_reducible refine s_ne ?_
  | ((with_reducible refine' s_neSame ?he ?_); (case he => with_reducible rfl))
  | ((with_reducible refine' s_eqSame ?he ?_); (case he => with_reducible rfl))
  | with_reducible refine s_eqS ?_
  | with_reducible refine s_neS ?_
  | with_reducible refine s_isN ?_
  | with_reducible refine s_isNotN ?_
  | with_reducible refine t_bl ?_)
local macro_rules | `(tactic| walk_at "cl") => `(tactic| first
  | with_reducible refine c_int ?_
  | with_reducible refine c_intB ?_
  | with_reducible refine c_abs ?_
  | ((with_reducible refine' c_max ?hm ?_); (case hm => exact rfl))
  | ((with_reducible refine' c_min ?hm ?_); (case hm => exact rfl))
  | ((with_reducible refine' c_divmod ?hm ?_); (case hm => walk_at "side"))
  | ((with_reducible refine' c_len ?hm ?_); (case hm => walk_at "sq"))
  | ((with_reducible refine' c_list ?hm ?_); (case hm => walk_at "sq"))
  | ((with_reducible refine' c_tuple ?hm ?_); (case hm => walk_at "sq")))
local macro_rules | `(tactic| walk_at "sq") => `(tactic| first
  | exact sqL
  | exact sqT
  | exact sqB
  | exact sqP (by with_reducible assumption))
local macro_rules | `(tactic| walk_at "v") => `(tactic| first
  | ((with_reducible refine' v_sh ?ev ?_); (case ev => exact rfl))
  | ((with_reducible refine' v_ol ?ev ?_); (case ev => exact rfl))
  | ((with_reducible refine' v_slf ?ev ?_); (case ev => exact rfl))
  | with_reducible refine q_val ?_
  | ((with_reducible refine' q_walk ?ew ?_); (case ew => exact rfl))
  | ((with_reducible refine' q_rng1 ?ej ?ek ?_); (case ej => walk_at "rg"); (case ek => walk_at "rg"))
  | ((with_reducible refine' q_rng2 ?ej ?_); (case ej => walk_at "rg"))
  | with_reducible refine q_rngL ?_
  | with_reducible refine q_solc ?_
  | with_reducible refine q_sol0 ?_
  | ((with_reducible refine' q_gname ?eg ?_); (case eg => walk_at "set"))
  | ((with_reducible refine' n_set ?eg ?_); (case eg => walk_at "set"))
  | ((with_reducible refine' n_set2 ?eg ?_); (case eg => walk_at "set"))
  | ((with_reducible refine' n_set3 ?eg ?_); (case eg => walk_at "set"))
  | with_reducible refine q_two ?_
  | with_reducible refine q_three ?_
  | with_reducible refine q_vv ?_
  | with_reducible refine q_isS ?_
  | with_reducible refine q_isL ?_
  | with_reducible refine q_twoV ?_
  | with_reducible refine q_threeV ?_
  | with_reducible refine q_bl ?_
  | with_reducible refine q_oint ?_
  | ((with_reducible refine' q_gtup ?el ?_); (case el => exact rfl))
  | with_reducible refine q_gcons ?_
  | with_reducible refine q_gnil ?_
  | with_reducible refine i_t ?_
  | with_reducible refine i_f ?_
  | with_reducible refine i_nt ?_
  | with_reducible refine i_nf ?_
  | ((with_reducible refine' n_t ?en ?_); (case en => exact rfl))
  | ((with_reducible refine' n_f ?en ?_); (case en => exact rfl))
  | ((with_reducible refine' nn_t ?en ?_); (case en => exact rfl))
  | ((with_reducible refine' nn_f ?en ?_); (case en => exact rfl))
  | with_reducible refine And.intro (by walk_at "sz") ?_)
local macro_rules | `(tactic| walk_at "d") => `(tactic| first
  | walk_at "v"
  | walk_at "st"
  | walk_at "sm"
  | walk_at "cl"
  | walk_at "at")
local macro_rules | `(tactic| walk_at "dd") => `(tactic| repeat walk_at "d")
local macro_rules | `(tactic| walk_at "tx") => `(tactic| simp only [l_dash, l_dot, l_nil, l_space, l_figs, l_signs])

variable {P : Program} {w : World} {K : PySem.W.Frag} {mg : Str → Option Value} {base : Heap} {S : Sto} {Ex : XS} {Q : QO}

/-- values of plain kinds -/
def smp : D → Bool
  | .non => true
  | .bl _ => true
  | .int _ => true
  | .str _ => true
  | .tup _ => true
  | .lst _ => true
  | .dct _ => true
  | _ => false
def isI : D → Option Int
  | .int i => some i
  | _ => none
theorem isi_I (T : Tx K mg) {k : Nat} {d : D} (hd : smp d = true) (q : Q (.v (.bl (match d with | .int _ => true | .bl _ => true | _ => false))) S) : sCall (bs P w K mg base) k (.builtin "isinstance") [] [.v d, .v (.ty "int")] [] S Ex Q := by
  cases d with
  | non => exact c_isi (tyK rfl) rfl T.i_NNoneType q
  | bl b => exact c_isi (tyK rfl) rfl T.i_Nbool q
  | int i => exact c_isi (tyK rfl) rfl T.i_Nint q
  | str x => exact c_isi (tyK rfl) rfl T.i_Nstr q
  | tup xs => exact c_isi (tyK rfl) rfl T.i_Ntuple q
  | lst xs => exact c_isi (tyK rfl) rfl T.i_Nlist q
  | dct xs => exact c_isi (tyK rfl) rfl T.i_Ndict q
  | _ => cases hd
theorem ok_isint (T : Tx K mg) {d : D} (hd : smp d = true) (q : Q (.v (.bl (isI d).isSome)) S) : sFun (bs P w K mg base) 1 (.ref (He.ga K "is_integer")) [] [d] [] S Ex Q := by
  refine' call_d (B := bs P w K mg base) 0 (Classical.choose_spec T.d_is_integer) sc_is_integer rfl (bm_all (ps := ["value"]) (Classical.choose_spec T.d_is_integer) (fun _ _ _ _ _ _ us hl => match us, hl with | [_], _ => rfl)) (dss_one (ds_ret (de_and (de_callB (id := "isinstance") rfl T.f_isinstance (by decide +kernel) (da_cons (dv 0) (da_cons (de_ty (n := "int") rfl T.f_int (by decide +kernel)) da_nil))) (de_one (de_not (de_callB (id := "isinstance") rfl T.f_isinstance (by decide +kernel) (da_cons (dv 0) (da_cons (de_ty (n := "bool") rfl T.f_bool (by decide +kernel)) da_nil)))))))) ⟨rfl, rfl⟩ ?st ?_
  case st => walk_at "start"
  walk_at "dd"
  refine isi_I T hd ?_
  cases d with
  | int i =>
    walk_at "dd"
    refine c_isi (tyK rfl) rfl T.i_Bint ?_
    walk_at "dd"
    exact q
  | bl b =>
    walk_at "dd"
    refine c_isi (tyK rfl) rfl T.i_Bbool ?_
    walk_at "dd"
    exact q
  | non => walk_at "dd"; exact q
  | str x => walk_at "dd"; exact q
  | tup xs => walk_at "dd"; exact q
  | lst xs => walk_at "dd"; exact q
  | dct xs => walk_at "dd"; exact q
  | _ => cases hd
abbrev FAR : Int := 1000000000
def inR (d : D) (lo hi : Int) : Bool := match isI d with
  | some i => decide (lo ≤ i) && decide (i ≤ hi)
  | none => false
theorem inR_of {d : D} {lo hi : Int} (h : inR d lo hi = true) : ∃ i, d = .int i ∧ lo ≤ i ∧ i ≤ hi := by
  unfold inR at h
  cases d <;> first
    | (cases h; done)
    | (rename_i i
       have h : (decide (lo ≤ i) && decide (i ≤ hi)) = true := h
       rw [Bool.and_eq_true, decide_eq_true_eq, decide_eq_true_eq] at h
       exact ⟨i, rfl, h.1, h.2⟩)
theorem ok_check_range (T : Tx K mg) {d : D} {lo hi : Int} (hd : smp d = true) (q : inR d lo hi = true → Q (.v .non) S) (e : inR d lo hi = false → Ex "InvalidNumber" [("number", d)] S) : sFun (bs P w K mg base) 3 (.ref (He.ga K "check_range")) [] [d, .int lo, .int hi] [] S Ex Q := by
  refine' call_d (B := bs P w K mg base) 2 (Classical.choose_spec T.d_check_range) sc_check_range rfl (bm_all (ps := ["number", "least", "most"]) (Classical.choose_spec T.d_check_range) (fun _ _ _ _ _ _ us hl => match us, hl with | [_, _, _], _ => rfl)) (dss_one (ds_if (DW.dt (dw_or (dt_not (dt_val (de_call rfl rfl ⟨T.g_is_integer, (Classical.choose_spec T.d_is_integer).kp⟩ (da_cons (dv 0) da_nil)))) (dw_or (dt_cmp (dv 0) (dv 1)) (dw_or1 (dt_cmp (dv 0) (dv 2)))))) (dss_one (ds_raise rfl (er_InvalidNumber T) rfl (Nat.le_of_ble_eq_true rfl) (da_cons (dv 0) da_nil))) dss_nil)) ⟨rfl, rfl⟩ ?st ?_
  case st => walk_at "start"
  walk_at "dd"
  refine (ok_isint T hd ?_).mono (Nat.le_of_ble_eq_true rfl)
  cases c : (isI d).isSome with
  | false =>
    have c2 : inR d lo hi = false := by
      unfold inR
      cases c3 : isI d with
      | none => rfl
      | some i => rw [c3] at c; cases c
    walk_at "dd"
    exact ⟨rfl, e c2⟩
  | true =>
    obtain ⟨i, rfl⟩ : ∃ i, d = .int i := by cases d <;> first | exact ⟨_, rfl⟩ | cases c
    have eR : inR (.int i) lo hi = (decide (lo ≤ i) && decide (i ≤ hi)) := rfl
    rw [eR] at q e
    walk_at "dd"
    refine i_two (fun c1 => ?_) fun c1 => ?_
    · walk_at "dd"
      exact ⟨rfl, e (by rw [decide_eq_false (by omega)] <;> rfl)⟩
    · walk_at "dd"
      refine i_two (fun c2 => ?_) fun c2 => ?_
      · walk_at "dd"
        exact ⟨rfl, e (by rw [decide_eq_false (show ¬ i ≤ hi by omega), Bool.and_false])⟩
      · walk_at "dd"
        exact q (by rw [decide_eq_true (show lo ≤ i by omega), decide_eq_true (show i ≤ hi by omega)] <;> rfl)
theorem ok_check_key (T : Tx K mg) {d : D} (hd : smp d = true) (q : inR d 0 FAR = true → Q (.v .non) S) (e : inR d 0 FAR = false → Ex "InvalidNumber" [("number", d)] S) : sFun (bs P w K mg base) 4 (.ref (He.ga K "check_key")) [] [d] [] S Ex Q := by
  refine' call_d (B := bs P w K mg base) 3 (Classical.choose_spec T.d_check_key) sc_check_key rfl (bm_all (ps := ["key"]) (Classical.choose_spec T.d_check_key) (fun _ _ _ _ _ _ us hl => match us, hl with | [_], _ => rfl)) (dss_one (ds_expr (de_call rfl rfl ⟨T.g_check_range, (Classical.choose_spec T.d_check_range).kp⟩ (da_cons (dv 0) (da_cons de_int (da_cons (de_gint rfl T.c_FARTHEST) da_nil)))))) ⟨rfl, rfl⟩ ?st ?_
  case st => walk_at "start"
  walk_at "dd"
  refine (ok_check_range T hd (fun h => ?_) fun h => ?_).mono (Nat.le_of_ble_eq_true rfl)
  · walk_at "dd"
    exact q h
  · exact e h
theorem ok_check_rank (T : Tx K mg) {d : D} (hd : smp d = true) (q : inR d (-FAR) FAR = true → Q (.v .non) S) (e : inR d (-FAR) FAR = false → Ex "InvalidNumber" [("number", d)] S) : sFun (bs P w K mg base) 4 (.ref (He.ga K "check_rank")) [] [d] [] S Ex Q := by
  refine' call_d (B := bs P w K mg base) 3 (Classical.choose_spec T.d_check_rank) sc_check_rank rfl (bm_all (ps := ["rank"]) (Classical.choose_spec T.d_check_rank) (fun _ _ _ _ _ _ us hl => match us, hl with | [_], _ => rfl)) (dss_one (ds_expr (de_call rfl rfl ⟨T.g_check_range, (Classical.choose_spec T.d_check_range).kp⟩ (da_cons (dv 0) (da_cons (de_bin de_int (de_gint rfl T.c_FARTHEST)) (da_cons (de_gint rfl T.c_FARTHEST) da_nil)))))) ⟨rfl, rfl⟩ ?st ?_
  case st => walk_at "start"
  walk_at "dd"
  refine (ok_check_range T hd (fun h => ?_) fun h => ?_).mono (Nat.le_of_ble_eq_true rfl)
  · walk_at "dd"
    exact q h
  · exact e h
def isB (d : D) : Option Bool := match d with
  | .bl b => some b
  | _ => none
theorem ok_check_mark (T : Tx K mg) {d : D} (q : ∀ b, d = .bl b → Q (.v .non) S) (e : isB d = none → Ex "InvalidMarked" [("value", d)] S) : sFun (bs P w K mg base) 3 (.ref (He.ga K "check_mark")) [] [d] [] S Ex Q := by
  refine' call_d (B := bs P w K mg base) 2 (Classical.choose_spec T.d_check_mark) sc_check_mark rfl (bm_all (ps := ["marked"]) (Classical.choose_spec T.d_check_mark) (fun _ _ _ _ _ _ us hl => match us, hl with | [_], _ => rfl)) (dss_one (ds_if (DW.dt (dw_and (dt_cmp (dv 0) de_bl) (dw_and1 (dt_cmp (dv 0) de_bl)))) (dss_one (ds_raise rfl (er_InvalidMarked T) rfl (Nat.le_of_ble_eq_true rfl) (da_cons (dv 0) da_nil))) dss_nil)) ⟨rfl, rfl⟩ ?st ?_
  case st => walk_at "start"
  walk_at "dd"
  refine s_isNotBa ?_
  cases c : isB d with
  | some b =>
    obtain rfl : d = .bl b := by cases d <;> first | (cases c; rfl) | cases c
    cases b with
    | true =>
      rw [show (!isTF (.bl true) true) = false from rfl]
      walk_at "dd"
      exact q _ rfl
    | false =>
      rw [show (!isTF (.bl false) true) = true from rfl]
      walk_at "dd"
      refine s_isNotBa ?_
      rw [show (!isTF (.bl false) false) = false from rfl]
      walk_at "dd"
      exact q _ rfl
  | none =>
    have n1 : ∀ b, (!isTF d b) = true := fun b => by cases d <;> first | rfl | cases c
    rw [n1]
    walk_at "dd"
    refine s_isNotBa ?_
    rw [n1]
    walk_at "dd"
    exact ⟨rfl, e c⟩
end Toy

set_option Elab.async false
set_option linter.all false
set_option maxRecDepth 100000
set_option maxHeartbeats 1000000
namespace Toy
open PySem PySem.Spec PyProof.Rows L2 My Dt SX
local macro_rules | `(tactic| walk_at "rg") => `(tactic| first
  | omega
  | ((refine And.intro ?_ (And.intro ?_ (And.intro ?_ ?_))) <;> omega))
local macro_rules | `(tactic| walk_at "ls") => `(tactic| first
  | with_reducible exact ls_v
  | with_reducible exact ls_b
  | ((with_reducible refine' ls_p ?hlp); (case hlp => with_reducible assumption)))
local macro_rules | `(tactic| walk_at "start") => `(tactic| ((simp only [startM, startS, List.map_cons, List.map_nil, List.length_cons, List.length_nil, List.cons_append, List.nil_append, Nat.reduceAdd, Nat.reduceSub, List.replicate_succ, List.replicate_zero]); exact rfl))
local macro_rules | `(tactic| walk_at "set") => `(tactic| first
  | ((dsimp only [Int.reduceToNat, List.set_cons_zero, List.set_cons_succ, VO.sl]); done)
  | ((dsimp only [Int.reduceToNat, List.set_cons_zero, List.set_cons_succ, VO.sl]); exact rfl)
  | exact rfl)
local macro_rules | `(tactic| walk_at "sz") => `(tactic| first
  | exact sz_of (Nat.le_of_ble_eq_true rfl)
  | (apply sz_of; simp only [List.length_cons, List.length_nil, List.length_append, List.length_map]; omega))
local macro_rules | `(tactic| walk_at "side") => `(tactic| first
  | with_reducible assumption
  | omega
  | exact ml (by omega) (by omega)
  | exact mr (by omega) (by omega)
  | exact dv (by omega) (by omega)
  | exact Bd.mulOk (by with_reducible assumption) (by with_reducible assumption) (by decide) (by decide) (by decide)
  | exact Bd.div (by with_reducible assumption) (by omega) (by decide) (by decide)
  | (show (0 : Int) < _; omega)
  | exact ⟨by decide, by decide, by decide⟩
  | decide
  | exact rfl)
local macro_rules | `(tactic| walk_at "st") => `(tactic| first
  | with_reducible refine q_seq ?_
  | with_reducible refine q_end ?_
  | with_reducible refine q_nil ?_
  | with_reducible refine q_asg ?_
  | with_reducible refine q_asg2 ?_
  | with_reducible refine q_ret ?_
  | with_reducible refine q_if ?_
  | with_reducible refine q_expr ?_
  | with_reducible refine q_retN ?_
  | with_reducible refine q_sub ?_
  | with_reducible refine q_for ?_
  | with_reducible refine q_del ?_
  | with_reducible refine q_par ?_
  | with_reducible refine q_par3 ?_
  | with_reducible refine q_parV ?_
  | with_reducible refine q_parV3 ?_
  | with_reducible refine q_asgF ?_
  | with_reducible refine q_asgC ?_
  | ((with_reducible refine' q_frz ?ef ?_); (case ef => exact rfl))
  | ((with_reducible refine' q_app ?ea ?eb ?_); (case ea => exact rfl); (case eb => walk_at "slen"))
  | with_reducible refine q_brk ?_
  | with_reducible refine q_cnt ?_
  | with_reducible refine q_fldS ?_
  | with_reducible refine q_fldP ?_
  | with_reducible refine q_raise ?_
  | with_reducible refine q_try ?_)
local macro_rules | `(tactic| walk_at "slen") => `(tactic| first
  | with_reducible assumption
  | ((rw [sizeLine_eq]); (simp only [List.length_cons, List.length_nil, List.length_append, List.length_map]); omega))
local macro_rules | `(tactic| walk_at "sm") => `(tactic| first
  | with_reducible refine s_add ?_
  | with_reducible refine s_sub ?_
  | ((with_reducible refine' s_mul ?hm ?_); (case hm => walk_at "side"))
  | ((with_reducible refine' s_fdiv ?hm ?_); (case hm => walk_at "side"))
  | ((with_reducible refine' s_mod ?hm ?_); (case hm => walk_at "side"))
  | with_reducible refine s_neg ?_
  | ((with_reducible refine' s_pow ?hm ?_); (case hm => walk_at "side"))
  | ((with_reducible refine' s_ixL ?hl ?he ?_); (case hl => walk_at "ls"); (case he => exact rfl))
  | ((with_reducible refine' s_ixT ?he ?_); (case he => exact rfl))
  | ((with_reducible refine' set_L2 ?ha ?hb ?hc ?_); (case ha => with_reducible assumption); (case hb => exact rfl); (case hc => walk_at "set"))
  | with_reducible refine s_addB ?_
  | with_reducible refine s_lt ?_
  | with_reducible refine s_le ?_
  | with_reducible refine s_gt ?_
  | with_reducible refine s_ge ?_
  | with_reducible refine s_eq ?_
  | with_reducible refine s_ne ?_
  | ((with_reducible refine' s_neSame ?he ?_); (case he => with_reducible rfl))
  | ((with_reducible refine' s_eqSame ?he ?_); (case he => with_reducible rfl))
  | with_reducible refine s_eqS ?_
  | with_reducible refine s_neS ?_
  | with_reducible refine s_isN ?_
  | with_reducible refine s_isNotN ?_
  | with_reducible refine t_bl ?_)
local macro_rules | `(tactic| walk_at "cl") => `(tactic| first
  | with_reducible refine c_int ?_
  | with_reducible refine c_intB ?_
  | with_reducible refine c_abs ?_
  | ((with_reducible refine' c_max ?hm ?_); (case hm => exact rfl))
  | ((with_reducible refine' c_min ?hm ?_); (case hm => exact rfl))
  | ((with_reducible refine' c_divmod ?hm ?_); (case hm => walk_at "side"))
  | ((with_reducible refine' c_len ?hm ?_); (case hm => walk_at "sq"))
  | ((with_reducible refine' c_list ?hm ?_); (case hm => walk_at "sq"))
  | ((with_reducible refine' c_tuple ?hm ?_); (case hm => walk_at "sq")))
local macro_rules | `(tactic| walk_at "sq") => `(tactic| first
  | exact sqL
  | exact sqT
  | exact sqB
  | exact sqP (by with_reducible assumption))
local macro_rules | `(tactic| walk_at "v") => `(tactic| first
  | ((with_reducible refine' v_sh ?ev ?_); (case ev => exact rfl))
  | ((with_reducible refine' v_ol ?ev ?_); (case ev => exact rfl))
  | ((with_reducible refine' v_slf ?ev ?_); (case ev => exact rfl))
  | with_reducible refine q_val ?_
  | ((with_reducible refine' q_walk ?ew ?_); (case ew => exact rfl))
  | ((with_reducible refine' q_rng1 ?ej ?ek ?_); (case ej => walk_at "rg"); (case ek => walk_at "rg"))
  | ((with_reducible refine' q_rng2 ?ej ?_); (case ej => walk_at "rg"))
  | with_reducible refine q_rngL ?_
  | with_reducible refine q_solc ?_
  | with_reducible refine q_sol0 ?_
  | ((with_reducible refine' q_gname ?eg ?_); (case eg => walk_at "set"))
  | ((with_reducible refine' n_set ?eg ?_); (case eg => walk_at "set"))
  | ((with_reducible refine' n_set2 ?eg ?_); (case eg => walk_at "set"))
  | ((with_reducible refine' n_set3 ?eg ?_); (case eg => walk_at "set"))
  | with_reducible refine q_two ?_
  | with_reducible refine q_three ?_
  | with_reducible refine q_vv ?_
  | with_reducible refine q_isS ?_
  | with_reducible refine q_isL ?_
  | with_reducible refine q_twoV ?_
  | with_reducible refine q_threeV ?_
  | with_reducible refine q_bl ?_
  | with_reducible refine q_oint ?_
  | ((with_reducible refine' q_gtup ?el ?_); (case el => exact rfl))
  | with_reducible refine q_gcons ?_
  | with_reducible refine q_gnil ?_
  | with_reducible refine i_t ?_
  | with_reducible refine i_f ?_
  | with_reducible refine i_nt ?_
  | with_reducible refine i_nf ?_
  | ((with_reducible refine' n_t ?en ?_); (case en => exact rfl))
  | ((with_reducible refine' n_f ?en ?_); (case en => exact rfl))
  | ((with_reducible refine' nn_t ?en ?_); (case en => exact rfl))
  | ((with_reducible refine' nn_f ?en ?_); (case en => exact rfl))
  | with_reducible refine And.intro (by walk_at "sz") ?_)
local macro_rules | `(tactic| walk_at "d") => `(tactic| first
  | walk_at "v"
  | walk_at "st"
  | walk_at "sm"
  | walk_at "cl"
  | walk_at "at")
local macro_rules | `(tactic| walk_at "dd") => `(tactic| repeat walk_at "d")
local macro_rules | `(tactic| walk_at "tx") => `(tactic| simp only [l_dash, l_dot, l_nil, l_space, l_figs, l_signs])

variable {P : Program} {w : World} {K : PySem.W.Frag} {mg : Str → Option Value} {base : Heap} {S : Sto} {Ex : XS} {Q : QO}

/-! the state of a Table, in plain words: key, rank, mark, the write's number -/
abbrev Ent := Int × (Int × Bool × Int)
abbrev entD (e : Int × Bool × Int) : D := .tup [.int e.1, .bl e.2.1, .int e.2.2]
abbrev kvE (e : Ent) : Key × D := (.inl e.1, entD e.2)
def getE (kvs : List Ent) (k : Int) : Option (Int × Bool × Int) := (kvs.find? fun e => decide (e.1 = k)).map (·.2)
def putE (kvs : List Ent) (k : Int) (e : Int × Bool × Int) : List Ent := if (kvs.any fun p => decide (p.1 = k)) = true then kvs.map (fun p => if p.1 = k then (p.1, e) else p) else kvs ++ [(k, e)]
def dropE (kvs : List Ent) (k : Int) : List Ent := kvs.filter fun p => decide (p.1 ≠ k)
theorem inl_iff {i k : Int} : ((Sum.inl i : Key) = .inl k) ↔ i = k := ⟨fun h => Sum.inl.inj h, fun h => by rw [h]⟩
theorem valE (kvs : List Ent) (k : Int) : valD (kvs.map kvE) (.inl k) = (getE kvs k).map entD := by
  unfold valD getE
  induction kvs with
  | nil => rfl
  | cons e r ih =>
    rw [List.map_cons, List.find?_cons, List.find?_cons]
    by_cases c : e.1 = k
    · rw [decide_eq_true (show (kvE e).1 = .inl k by rw [← c]), decide_eq_true c] <;> rfl
    · rw [decide_eq_false (show ¬ (kvE e).1 = .inl k from fun z => c (inl_iff.mp z)), decide_eq_false c]
      exact ih
theorem anyE (kvs : List Ent) (k : Int) : ((kvs.map kvE).any fun p => decide (p.1 = (.inl k : Key))) = (kvs.any fun p => decide (p.1 = k)) := by
  induction kvs with
  | nil => rfl
  | cons e r ih =>
    rw [List.map_cons, List.any_cons, List.any_cons, ih]
    by_cases c : e.1 = k
    · rw [decide_eq_true (show (kvE e).1 = .inl k by rw [← c]), decide_eq_true c]
    · rw [decide_eq_false (show ¬ (kvE e).1 = .inl k from fun z => c (inl_iff.mp z)), decide_eq_false c]
theorem putE_eq (kvs : List Ent) (k : Int) (e : Int × Bool × Int) : putKD (kvs.map kvE) (.inl k) (entD e) = (putE kvs k e).map kvE := by
  unfold putKD putE
  rw [anyE]
  by_cases c : (kvs.any fun p => decide (p.1 = k)) = true
  · rw [if_pos c, if_pos c, List.map_map, List.map_map]
    refine List.map_congr_left fun p _ => ?_
    show (if (kvE p).1 = .inl k then ((kvE p).1, entD e) else kvE p) = kvE (if p.1 = k then (p.1, e) else p)
    by_cases d : p.1 = k
    · rw [if_pos d, if_pos (show (kvE p).1 = .inl k by rw [← d])]
    · rw [if_neg d, if_neg (show ¬ (kvE p).1 = .inl k from fun z => d (inl_iff.mp z))]
  · rw [if_neg c, if_neg c, List.map_append] <;> rfl
theorem dropE_eq (kvs : List Ent) (k : Int) : dropKD (kvs.map kvE) (.inl k) = (dropE kvs k).map kvE := by
  unfold dropKD dropE
  rw [List.filter_map]
  congr 1
  refine List.filter_congr fun p _ => ?_
  show decide ((kvE p).1 ≠ .inl k) = decide (p.1 ≠ k)
  by_cases d : p.1 = k
  · rw [decide_eq_false (not_not_intro d), decide_eq_false (not_not_intro (show (kvE p).1 = .inl k by rw [← d]))]
  · rw [decide_eq_true d, decide_eq_true (show (kvE p).1 ≠ .inl k from fun z => d (inl_iff.mp z))]
/-- a Table -/
structure Tab where
  kvs : List Ent
  writes : Int
  size : Int
  marked : Int
def tabF (m : Nat) (c : Tab) : List (Str × D) := [("entries", .ptr m), ("writes", .int c.writes), ("size", .int c.size), ("marked", .int c.marked)]
structure HasT (S : Sto) (j m : Nat) (c : Tab) : Prop where
  o : S[j]? = some (.ins "Table" (tabF m c))
  d : S[m]? = some (.dct (c.kvs.map kvE))
theorem HasT.ne {S : Sto} {j m : Nat} {c : Tab} (h : HasT S j m c) : j ≠ m := fun e => by
  have := h.o
  rw [e, h.d] at this
  cases this
/-- all but two cells stay -/
structure Bt2 (j m : Nat) (S S' : Sto) : Prop where
  at_ : ∀ i, i ≠ j → i ≠ m → S'[i]? = S[i]?
  len : S'.length = S.length
theorem Bt2.refl {j m : Nat} {S : Sto} : Bt2 j m S S := ⟨fun _ _ _ => rfl, rfl⟩
theorem Bt2.trans {j m : Nat} {S S1 S2 : Sto} (a : Bt2 j m S S1) (b : Bt2 j m S1 S2) : Bt2 j m S S2 := ⟨fun i h k => (b.at_ i h k).trans (a.at_ i h k), b.len.trans a.len⟩
theorem Bt2.set1 {j m : Nat} {S : Sto} {c : Cell} : Bt2 j m S (S.set j c) := ⟨fun i h _ => List.getElem?_set_ne (Ne.symm h), List.length_set⟩
theorem Bt2.set2 {j m : Nat} {S : Sto} {c : Cell} : Bt2 j m S (S.set m c) := ⟨fun i _ h => List.getElem?_set_ne (Ne.symm h), List.length_set⟩
theorem set_at {S : Sto} {j : Nat} {c d : Cell} (h : S[j]? = some c) : (S.set j d)[j]? = some d := List.getElem?_set_self (List.getElem?_eq_some_iff.mp h).1
theorem HasT.setO {S : Sto} {j m : Nat} {c c' : Tab} (h : HasT S j m c) (e : c'.kvs = c.kvs) : HasT (S.set j (.ins "Table" (tabF m c'))) j m c' := ⟨set_at h.o, by rw [List.getElem?_set_ne h.ne, e]; exact h.d⟩
theorem HasT.setD {S : Sto} {j m : Nat} {c c' : Tab} (h : HasT S j m c) (e : tabF m c' = tabF m c) : HasT (S.set m (.dct (c'.kvs.map kvE))) j m c' := ⟨by rw [List.getElem?_set_ne (Ne.symm h.ne), e]; exact h.o, set_at h.d⟩
end Toy

set_option Elab.async false
set_option linter.all false
set_option maxRecDepth 100000
set_option maxHeartbeats 1000000
namespace Toy
open PySem PySem.Spec PyProof.Rows L2 My Dt SX
local macro_rules | `(tactic| walk_at "rg") => `(tactic| first
  | omega
  | ((refine And.intro ?_ (And.intro ?_ (And.intro ?_ ?_))) <;> omega))
local macro_rules | `(tactic| walk_at "ls") => `(tactic| first
  | with_reducible exact ls_v
  | with_reducible exact ls_b
  | ((with_reducible refine' ls_p ?hlp); (case hlp => with_reducible assumption)))
local macro_rules | `(tactic| walk_at "start") => `(tactic| ((simp only [startM, startS, List.map_cons, List.map_nil, List.length_cons, List.length_nil, List.cons_append, List.nil_append, Nat.reduceAdd, Nat.reduceSub, List.replicate_succ, List.replicate_zero]); exact rfl))
local macro_rules | `(tactic| walk_at "set") => `(tactic| first
  | ((dsimp only [Int.reduceToNat, List.set_cons_zero, List.set_cons_succ, VO.sl]); done)
  | ((dsimp only [Int.reduceToNat, List.set_cons_zero, List.set_cons_succ, VO.sl]); exact rfl)
  | exact rfl)
local macro_rules | `(tactic| walk_at "sz") => `(tactic| first
  | exact sz_of (Nat.le_of_ble_eq_true rfl)
  | (apply sz_of; simp only [List.length_cons, List.length_nil, List.length_append, List.length_map]; omega))
local macro_rules | `(tactic| walk_at "side") => `(tactic| first
  | with_reducible assumption
  | omega
  | exact ml (by omega) (by omega)
  | exact mr (by omega) (by omega)
  | exact dv (by omega) (by omega)
  | exact Bd.mulOk (by with_reducible assumption) (by with_reducible assumption) (by decide) (by decide) (by decide)
  | exact Bd.div (by with_reducible assumption) (by omega) (by decide) (by decide)
  | (show (0 : Int) < _; omega)
  | exact ⟨by decide, by decide, by decide⟩
  | decide
  | exact rfl)
local macro_rules | `(tactic| walk_at "st") => `(tactic| first
  | with_reducible refine q_seq ?_
  | with_reducible refine q_end ?_
  | with_reducible refine q_nil ?_
  | with_reducible refine q_asg ?_
  | with_reducible refine q_asg2 ?_
  | with_reducible refine q_ret ?_
  | with_reducible refine q_if ?_
  | with_reducible refine q_expr ?_
  | with_reducible refine q_retN ?_
  | with_reducible refine q_sub ?_
  | with_reducible refine q_for ?_
  | with_reducible refine q_del ?_
  | with_reducible refine q_par ?_
  | with_reducible refine q_par3 ?_
  | with_reducible refine q_parV ?_
  | with_reducible refine q_parV3 ?_
  | with_reducible refine q_asgF ?_
  | with_reducible refine q_asgC ?_
  | ((with_reducible refine' q_frz ?ef ?_); (case ef => exact rfl))
  | ((with_reducible refine' q_app ?ea ?eb ?_); (case ea => exact rfl); (case eb => walk_at "slen"))
  | with_reducible refine q_brk ?_
  | with_reducible refine q_cnt ?_
  | with_reducible refine q_fldS ?_
  | with_reducible refine q_fldP ?_
  | with_reducible refine q_raise ?_
  | with_reducible refine q_try ?_)
local macro_rules | `(tactic| walk_at "slen") => `(tactic| first
  | with_reducible assumption
  | ((rw [sizeLine_eq]); (simp only [List.length_cons, List.length_nil, List.length_append, List.length_map]); omega))
local macro_rules | `(tactic| walk_at "sm") => `(tactic| first
  | with_reducible refine s_add ?_
  | with_reducible refine s_sub ?_
  | ((with_reducible refine' s_mul ?hm ?_); (case hm => walk_at "side"))
  | ((with_reducible refine' s_fdiv ?hm ?_); (case hm => walk_at "side"))
  | ((with_reducible refine' s_mod ?hm ?_); (case hm => walk_at "side"))
  | with_reducible refine s_neg ?_
  | ((with_reducible refine' s_pow ?hm ?_); (case hm => walk_at "side"))
  | ((with_reducible refine' s_ixL ?hl ?he ?_); (case hl => walk_at "ls"); (case he => exact rfl))
  | ((with_reducible refine' s_ixT ?he ?_); (case he => exact rfl))
  | ((with_reducible refine' set_L2 ?ha ?hb ?hc ?_); (case ha => with_reducible assumption); (case hb => exact rfl); (case hc => walk_at "set"))
  | with_reducible refine s_addB ?_
  | with_reducible refine s_lt ?_
  | with_reducible refine s_le ?_
  | with_reducible refine s_gt ?_
  | with_reducible refine s_ge ?_
  | with_reducible refine s_eq ?_
  | with_reducible refine s_ne ?_
  | ((with_reducible refine' s_neSame ?he ?_); (case he => with_reducible rfl))
  | ((with_reducible refine' s_eqSame ?he ?_); (case he => with_reducible rfl))
  | with_reducible refine s_eqS ?_
  | with_reducible refine s_neS ?_
  | with_reducible refine s_isN ?_
  | with_reducible refine s_isNotN ?_
  | with_reducible refine t_bl ?_)
local macro_rules | `(tactic| walk_at "cl") => `(tactic| first
  | with_reducible refine c_int ?_
  | with_reducible refine c_intB ?_
  | with_reducible refine c_abs ?_
  | ((with_reducible refine' c_max ?hm ?_); (case hm => exact rfl))
  | ((with_reducible refine' c_min ?hm ?_); (case hm => exact rfl))
  | ((with_reducible refine' c_divmod ?hm ?_); (case hm => walk_at "side"))
  | ((with_reducible refine' c_len ?hm ?_); (case hm => walk_at "sq"))
  | ((with_reducible refine' c_list ?hm ?_); (case hm => walk_at "sq"))
  | ((with_reducible refine' c_tuple ?hm ?_); (case hm => walk_at "sq")))
local macro_rules | `(tactic| walk_at "sq") => `(tactic| first
  | exact sqL
  | exact sqT
  | exact sqB
  | exact sqP (by with_reducible assumption))
local macro_rules | `(tactic| walk_at "v") => `(tactic| first
  | ((with_reducible refine' v_sh ?ev ?_); (case ev => exact rfl))
  | ((with_reducible refine' v_ol ?ev ?_); (case ev => exact rfl))
  | ((with_reducible refine' v_slf ?ev ?_); (case ev => exact rfl))
  | with_reducible refine q_val ?_
  | ((with_reducible refine' q_walk ?ew ?_); (case ew => exact rfl))
  | ((with_reducible refine' q_rng1 ?ej ?ek ?_); (case ej => walk_at "rg"); (case ek => walk_at "rg"))
  | ((with_reducible refine' q_rng2 ?ej ?_); (case ej => walk_at "rg"))
  | with_reducible refine q_rngL ?_
  | with_reducible refine q_solc ?_
  | with_reducible refine q_sol0 ?_
  | ((with_reducible refine' q_gname ?eg ?_); (case eg => walk_at "set"))
  | ((with_reducible refine' n_set ?eg ?_); (case eg => walk_at "set"))
  | ((with_reducible refine' n_set2 ?eg ?_); (case eg => walk_at "set"))
  | ((with_reducible refine' n_set3 ?eg ?_); (case eg => walk_at "set"))
  | with_reducible refine q_two ?_
  | with_reducible refine q_three ?_
  | with_reducible refine q_vv ?_
  | with_reducible refine q_isS ?_
  | with_reducible refine q_isL ?_
  | with_reducible refine q_twoV ?_
  | with_reducible refine q_threeV ?_
  | with_reducible refine q_bl ?_
  | with_reducible refine q_oint ?_
  | ((with_reducible refine' q_gtup ?el ?_); (case el => exact rfl))
  | with_reducible refine q_gcons ?_
  | with_reducible refine q_gnil ?_
  | with_reducible refine i_t ?_
  | with_reducible refine i_f ?_
  | with_reducible refine i_nt ?_
  | with_reducible refine i_nf ?_
  | ((with_reducible refine' n_t ?en ?_); (case en => exact rfl))
  | ((with_reducible refine' n_f ?en ?_); (case en => exact rfl))
  | ((with_reducible refine' nn_t ?en ?_); (case en => exact rfl))
  | ((with_reducible refine' nn_f ?en ?_); (case en => exact rfl))
  | with_reducible refine And.intro (by walk_at "sz") ?_)
local macro_rules | `(tactic| walk_at "d") => `(tactic| first
  | walk_at "v"
  | walk_at "st"
  | walk_at "sm"
  | walk_at "cl"
  | walk_at "at")
local macro_rules | `(tactic| walk_at "dd") => `(tactic| repeat walk_at "d")
local macro_rules | `(tactic| walk_at "tx") => `(tactic| simp only [l_dash, l_dot, l_nil, l_space, l_figs, l_signs])

variable {P : Program} {w : World} {K : PySem.W.Frag} {mg : Str → Option Value} {base : Heap} {S : Sto} {Ex : XS} {Q : QO}

theorem atk {d : D} (h : inR d 0 FAR = true) : ∃ i, d = .int i := let ⟨i, e, _⟩ := inR_of h; ⟨i, e⟩
theorem ok_entry_of (T : Tx K mg) {j m : Nat} {c : Tab} {d : D} (h : HasT S j m c) (hd : smp d = true) (q : ∀ i e, d = .int i → inR d 0 FAR = true → getE c.kvs i = some e → Q (.v (entD e)) S)
    (e1 : inR d 0 FAR = false → Ex "InvalidNumber" [("number", d)] S) (e2 : ∀ i, d = .int i → inR d 0 FAR = true → getE c.kvs i = none → Ex "UnknownRow" [("key", d)] S) :
    sFun (bs P w K mg base) 5 (.ref (He.ma K (He.ga K "Table") "entry_of")) [] [.ptr j, d] [] S Ex Q := by
  refine' call_d (B := bs P w K mg base) 4 (Classical.choose_spec T.d_Table_entry_of) sc_Table_entry_of rfl (bm_all (ps := ["self", "key"]) (Classical.choose_spec T.d_Table_entry_of) (fun _ _ _ _ _ _ us hl => match us, hl with | [_, _], _ => rfl)) (dss_cons (ds_expr (de_call rfl rfl ⟨T.g_check_key, (Classical.choose_spec T.d_check_key).kp⟩ (da_cons (dv 1) da_nil))) (dss_cons (ds_if (dt_cmp (dv 1) (de_attr (dv 0))) (dss_one (ds_raise rfl (er_UnknownRow T) rfl (Nat.le_of_ble_eq_true rfl) (da_cons (dv 1) da_nil))) dss_nil) (dss_one (ds_ret (de_ix (de_attr (dv 0)) (dv 1) (fun _ _ => rfl)))))) ⟨rfl, rfl⟩ ?st ?_
  case st => walk_at "start"
  walk_at "dd"
  refine (ok_check_key T hd (fun r => ?_) fun r => e1 r).mono (Nat.le_of_ble_eq_true rfl)
  obtain ⟨i, rfl⟩ := atk r
  walk_at "dd"
  refine sAttr_f (isI_ptr h.o) T.cl_Table T.n_Table_entries rfl ?_
  walk_at "dd"
  refine s_notInK (i := .inl i) (xs := c.kvs.map kvE) h.d ?_
  rw [valE]
  cases g : getE c.kvs i with
  | none =>
    rw [show (!(Option.map entD none).isSome) = true from rfl]
    walk_at "dd"
    exact ⟨rfl, e2 i rfl r g⟩
  | some e =>
    rw [show (!(Option.map entD (some e)).isSome) = false from rfl]
    walk_at "dd"
    refine sAttr_f (isI_ptr h.o) T.cl_Table T.n_Table_entries rfl ?_
    walk_at "dd"
    refine s_ixK (i := .inl i) (xs := c.kvs.map kvE) h.d (by rw [valE, g] <;> rfl) ?_
    walk_at "dd"
    exact q i e rfl r g
def Tab.write (c : Tab) (i r : Int) (b : Bool) : Tab := { c with kvs := putE c.kvs i (r, b, c.writes + 1), writes := c.writes + 1 }
theorem ok_write (T : Tx K mg) {j m : Nat} {c : Tab} {i r : Int} {b : Bool} (h : HasT S j m c) (few : c.kvs.length ≤ 1000) (q : ∀ S', HasT S' j m (c.write i r b) → Bt2 j m S S' → Q (.v .non) S') :
    sFun (bs P w K mg base) 1 (.ref (He.ma K (He.ga K "Table") "write")) [] [.ptr j, .int i, .int r, .bl b] [] S Ex Q := by
  refine' call_d (B := bs P w K mg base) 0 (Classical.choose_spec T.d_Table_write) sc_Table_write rfl (bm_all (ps := ["self", "key", "rank", "marked"]) (Classical.choose_spec T.d_Table_write) (fun _ _ _ _ _ _ us hl => match us, hl with | [_, _, _, _], _ => rfl)) (dss_cons (ds_fld (dv 0) (de_bin (de_attr (dv 0)) de_int)) (dss_one (ds_sub (de_attr (dv 0)) (dv 1) (de_tup (da_cons (dv 2) (da_cons (dv 3) (da_cons (de_attr (dv 0)) da_nil))))))) ⟨rfl, rfl⟩ ?st ?_
  case st => walk_at "start"
  walk_at "dd"
  refine sAttr_f (isI_ptr h.o) T.cl_Table T.n_Table_writes rfl ?_
  walk_at "dd"
  refine ⟨_, j, "Table", _, rfl, rfl, h.o, T.cl_Table, T.n_Table_writes, Nat.le_of_ble_eq_true rfl, ?_⟩
  have h1 : HasT _ j m { c with writes := c.writes + 1 } := HasT.setO h rfl
  walk_at "dd"
  refine sAttr_f (isI_ptr h1.o) T.cl_Table T.n_Table_writes rfl ?_
  walk_at "dd"
  refine sAttr_f (isI_ptr h1.o) T.cl_Table T.n_Table_entries rfl ?_
  walk_at "dd"
  refine set_K (i := .inl i) (xs := c.kvs.map kvE) h1.d (by rw [List.length_map, sizeLine_eq]; omega) ?_
  rw [show (D.tup [.int r, .bl b, .int (c.writes + 1)]) = entD (r, b, c.writes + 1) from rfl, putE_eq]
  have h2 : HasT _ j m (c.write i r b) := HasT.setD h1 rfl
  walk_at "dd"
  exact q _ h2 (Bt2.set1.trans .set2)
end Toy

set_option Elab.async false
set_option linter.all false
set_option maxRecDepth 100000
set_option maxHeartbeats 1000000
namespace Toy
open PySem PySem.Spec PyProof.Rows L2 My Dt SX
local macro_rules | `(tactic| walk_at "rg") => `(tactic| first
  | omega
  | ((refine And.intro ?_ (And.intro ?_ (And.intro ?_ ?_))) <;> omega))
local macro_rules | `(tactic| walk_at "ls") => `(tactic| first
  | with_reducible exact ls_v
  | with_reducible exact ls_b
  | ((with_reducible refine' ls_p ?hlp); (case hlp => with_reducible assumption)))
local macro_rules | `(tactic| walk_at "start") => `(tactic| ((simp only [startM, startS, List.map_cons, List.map_nil, List.length_cons, List.length_nil, List.cons_append, List.nil_append, Nat.reduceAdd, Nat.reduceSub, List.replicate_succ, List.replicate_zero]); exact rfl))
local macro_rules | `(tactic| walk_at "set") => `(tactic| first
  | ((dsimp only [Int.reduceToNat, List.set_cons_zero, List.set_cons_succ, VO.sl]); done)
  | ((dsimp only [Int.reduceToNat, List.set_cons_zero, List.set_cons_succ, VO.sl]); exact rfl)
  | exact rfl)
local macro_rules | `(tactic| walk_at "sz") => `(tactic| first
  | exact sz_of (Nat.le_of_ble_eq_true rfl)
  | (apply sz_of; simp only [List.length_cons, List.length_nil, List.length_append, List.length_map]; omega))
local macro_rules | `(tactic| walk_at "side") => `(tactic| first
  | with_reducible assumption
  | omega
  | exact ml (by omega) (by omega)
  | exact mr (by omega) (by omega)
  | exact dv (by omega) (by omega)
  | exact Bd.mulOk (by with_reducible assumption) (by with_reducible assumption) (by decide) (by decide) (by decide)
  | exact Bd.div (by with_reducible assumption) (by omega) (by decide) (by decide)
  | (show (0 : Int) < _; omega)
  | exact ⟨by decide, by decide, by decide⟩
  | decide
  | exact rfl)
local macro_rules | `(tactic| walk_at "st") => `(tactic| first
  | with_reducible refine q_seq ?_
  | with_reducible refine q_end ?_
  | with_reducible refine q_nil ?_
  | with_reducible refine q_asg ?_
  | with_reducible refine q_asg2 ?_
  | with_reducible refine q_ret ?_
  | with_reducible refine q_if ?_
  | with_reducible refine q_expr ?_
  | with_reducible refine q_retN ?_
  | with_reducible refine q_sub ?_
  | with_reducible refine q_for ?_
  | with_reducible refine q_del ?_
  | with_reducible refine q_par ?_
  | with_reducible refine q_par3 ?_
  | with_reducible refine q_parV ?_
  | with_reducible refine q_parV3 ?_
  | with_reducible refine q_asgF ?_
  | with_reducible refine q_asgC ?_
  | ((with_reducible refine' q_frz ?ef ?_); (case ef => exact rfl))
  | ((with_reducible refine' q_app ?ea ?eb ?_); (case ea => exact rfl); (case eb => walk_at "slen"))
  | with_reducible refine q_brk ?_
  | with_reducible refine q_cnt ?_
  | with_reducible refine q_fldS ?_
  | with_reducible refine q_fldP ?_
  | with_reducible refine q_raise ?_
  | with_reducible refine q_try ?_)
local macro_rules | `(tactic| walk_at "slen") => `(tactic| first
  | with_reducible assumption
  | ((rw [sizeLine_eq]); (simp only [List.length_cons, List.length_nil, List.length_append, List.length_map]); omega))
local macro_rules | `(tactic| walk_at "sm") => `(tactic| first
  | with_reducible refine s_add ?_
  | with_reducible refine s_sub ?_
  | ((with_reducible refine' s_mul ?hm ?_); (case hm => walk_at "side"))
  | ((with_reducible refine' s_fdiv ?hm ?_); (case hm => walk_at "side"))
  | ((with_reducible refine' s_mod ?hm ?_); (case hm => walk_at "side"))
  | with_reducible refine s_neg ?_
  | ((with_reducible refine' s_pow ?hm ?_); (case hm => walk_at "side"))
  | ((with_reducible refine' s_ixL ?hl ?he ?_); (case hl => walk_at "ls"); (case he => exact rfl))
  | ((with_reducible refine' s_ixT ?he ?_); (case he => exact rfl))
  | ((with_reducible refine' set_L2 ?ha ?hb ?hc ?_); (case ha => with_reducible assumption); (case hb => exact rfl); (case hc => walk_at "set"))
  | with_reducible refine s_addB ?_
  | with_reducible refine s_lt ?_
  | with_reducible refine s_le ?_
  | with_reducible refine s_gt ?_
  | with_reducible refine s_ge ?_
  | with_reducible refine s_eq ?_
  | with_reducible refine s_ne ?_
  | ((with_reducible refine' s_neSame ?he ?_); (case he => with_reducible rfl))
  | ((with_reducible refine' s_eqSame ?he ?_); (case he => with_reducible rfl))
  | with_reducible refine s_eqS ?_
  | with_reducible refine s_neS ?_
  | with_reducible refine s_isN ?_
  | with_reducible refine s_isNotN ?_
  | with_reducible refine t_bl ?_)
local macro_rules | `(tactic| walk_at "cl") => `(tactic| first
  | with_reducible refine c_int ?_
  | with_reducible refine c_intB ?_
  | with_reducible refine c_abs ?_
  | ((with_reducible refine' c_max ?hm ?_); (case hm => exact rfl))
  | ((with_reducible refine' c_min ?hm ?_); (case hm => exact rfl))
  | ((with_reducible refine' c_divmod ?hm ?_); (case hm => walk_at "side"))
  | ((with_reducible refine' c_len ?hm ?_); (case hm => walk_at "sq"))
  | ((with_reducible refine' c_list ?hm ?_); (case hm => walk_at "sq"))
  | ((with_reducible refine' c_tuple ?hm ?_); (case hm => walk_at "sq")))
local macro_rules | `(tactic| walk_at "sq") => `(tactic| first
  | exact sqL
  | exact sqT
  | exact sqB
  | exact sqP (by with_reducible assumption))
local macro_rules | `(tactic| walk_at "v") => `(tactic| first
  | ((with_reducible refine' v_sh ?ev ?_); (case ev => exact rfl))
  | ((with_reducible refine' v_ol ?ev ?_); (case ev => exact rfl))
  | ((with_reducible refine' v_slf ?ev ?_); (case ev => exact rfl))
  | with_reducible refine q_val ?_
  | ((with_reducible refine' q_walk ?ew ?_); (case ew => exact rfl))
  | ((with_reducible refine' q_rng1 ?ej ?ek ?_); (case ej => walk_at "rg"); (case ek => walk_at "rg"))
  | ((with_reducible refine' q_rng2 ?ej ?_); (case ej => walk_at "rg"))
  | with_reducible refine q_rngL ?_
  | with_reducible refine q_solc ?_
  | with_reducible refine q_sol0 ?_
  | ((with_reducible refine' q_gname ?eg ?_); (case eg => walk_at "set"))
  | ((with_reducible refine' n_set ?eg ?_); (case eg => walk_at "set"))
  | ((with_reducible refine' n_set2 ?eg ?_); (case eg => walk_at "set"))
  | ((with_reducible refine' n_set3 ?eg ?_); (case eg => walk_at "set"))
  | with_reducible refine q_two ?_
  | with_reducible refine q_three ?_
  | with_reducible refine q_vv ?_
  | with_reducible refine q_isS ?_
  | with_reducible refine q_isL ?_
  | with_reducible refine q_twoV ?_
  | with_reducible refine q_threeV ?_
  | with_reducible refine q_bl ?_
  | with_reducible refine q_oint ?_
  | ((with_reducible refine' q_gtup ?el ?_); (case el => exact rfl))
  | with_reducible refine q_gcons ?_
  | with_reducible refine q_gnil ?_
  | with_reducible refine i_t ?_
  | with_reducible refine i_f ?_
  | with_reducible refine i_nt ?_
  | with_reducible refine i_nf ?_
  | ((with_reducible refine' n_t ?en ?_); (case en => exact rfl))
  | ((with_reducible refine' n_f ?en ?_); (case en => exact rfl))
  | ((with_reducible refine' nn_t ?en ?_); (case en => exact rfl))
  | ((with_reducible refine' nn_f ?en ?_); (case en => exact rfl))
  | with_reducible refine And.intro (by walk_at "sz") ?_)
local macro_rules | `(tactic| walk_at "d") => `(tactic| first
  | walk_at "v"
  | walk_at "st"
  | walk_at "sm"
  | walk_at "cl"
  | walk_at "at")
local macro_rules | `(tactic| walk_at "dd") => `(tactic| repeat walk_at "d")
local macro_rules | `(tactic| walk_at "tx") => `(tactic| simp only [l_dash, l_dot, l_nil, l_space, l_figs, l_signs])

variable {P : Program} {w : World} {K : PySem.W.Frag} {mg : Str → Option Value} {base : Heap} {S : Sto} {Ex : XS} {Q : QO}

theorem bn_Table_order (T : Tx K mg) : Binds K (Classical.choose T.d_Table_order) ["self"] [] := (Classical.choose_spec T.d_Table_order).bindsN (fun _ _ _ _ _ _ us hl => match us, hl with | [_], _ => rfl)
noncomputable def gr_order {P : Program} {w : World} {base : Heap} (T : Tx K mg) : GenR (genCf (bs P w K mg base) 2 ["self", "owners", "rank", "entry", "key"] (defScope s_Table_order)) (defBody s_Table_order) := ⟨_, (dys_cons (dy_ds (ds_setDcL (i := 1) (own := [("key", 4), ("entry", 3)]) rfl (by decide) rfl rfl (fun _ h => sw_trueD (by rw [h]; rfl) (by rw [h]; rfl) rfl (by decide +kernel)) (dil_items (de_attr (dv 0)) (fun _ => rfl) rfl) (blkOk_by (N := ["self", "owners", "rank", "entry", "key"]) (sc := defScope s_Table_order) (by decide +kernel)) (dg_tup (n := 2) rfl (dgs_cons (dgn 4) (dgs_cons (dgn 3) dgs_nil))) dts_nil (de_ix (dv 3) de_int (fun _ _ => rfl)) (dv 4))) (dys_cons (dy_for rfl rfl (di_val (de_callB (id := "sorted") rfl T.f_sorted (by decide +kernel) (da_cons (DF.de (df_lcL (own := [("rank", 2)]) rfl (by decide) (dil_keys (dv 1)) (blkOk_by (N := ["self", "owners", "rank", "entry", "key"]) (sc := defScope s_Table_order) (by decide +kernel)) (dgn 2) dts_nil (de_callT (T := "int") rfl T.f_int (by decide +kernel) (da_cons (dv 2) da_nil)))) da_nil))) (dgn 2) (dys_cons (dy_yield (de_ix (dv 1) (dv 2) (fun _ _ => rfl)) rfl) dys_nil)) dys_nil))⟩
theorem gen_Table_order (T : Tx K mg) : GFn P w K mg base 3 (mAd K "Table" "order") (Classical.choose T.d_Table_order) ["self"] (spY (bs P w K mg base) ["self", "owners", "rank", "entry", "key"] ["self"] (gr_order (P := P) (w := w) (base := base) T).t) :=
  gen_def (B := bs P w K mg base) (k := 2) (Classical.choose_spec T.d_Table_order) sc_Table_order (gr_order T).h
/-- ranks to keys, as order makes it -/
def kfO : D → Key := fun x => match x with
  | .tup [_, .tup (.int r :: _)] => .inl r
  | _ => .inl 0
def vfO : D → D := fun x => match x with
  | .tup [d, _] => d
  | _ => .non
def itmD (e : Ent) : D := .tup [.int e.1, entD e.2]
def ownersD (kvs : List Ent) : List (Key × D) := (kvs.map itmD).foldl (fun a x => putKD a (kfO x) (vfO x)) []
/-- the ranks as the dict has them -/
def ranksD (kvs : List Ent) : List Int := (ownersD kvs).map fun p => match p.1 with
  | .inl i => i
  | .inr _ => 0
def allInl (kvs : List (Key × D)) : Prop := ∀ p ∈ kvs, ∃ i, p.1 = .inl i
theorem putKD_inl {kvs : List (Key × D)} {r : Int} {d : D} (h : allInl kvs) : allInl (putKD kvs (.inl r) d) := by
  intro p hp
  unfold putKD at hp
  split at hp
  · obtain ⟨q, hq, e⟩ := List.mem_map.mp hp
    split at e
    · rw [← e]; exact h q hq
    · rw [← e]; exact h q hq
  · rcases List.mem_append.mp hp with z | z
    · exact h p z
    · rw [List.mem_singleton.mp z]; exact ⟨r, rfl⟩
theorem owners_inl (kvs : List Ent) : allInl (ownersD kvs) := by
  unfold ownersD
  have key : ∀ (kvs : List Ent) (acc : List (Key × D)), allInl acc → allInl ((kvs.map itmD).foldl (fun a x => putKD a (kfO x) (vfO x)) acc) := by
    intro kvs
    induction kvs with
    | nil => exact fun acc h => h
    | cons e r ih => exact fun acc h => ih _ (putKD_inl h)
  exact key kvs [] fun p hp => by cases hp
theorem owners_len (kvs : List Ent) : (ownersD kvs).length ≤ kvs.length := by
  unfold ownersD
  have key : ∀ (kvs : List Ent) (acc : List (Key × D)), ((kvs.map itmD).foldl (fun a x => putKD a (kfO x) (vfO x)) acc).length ≤ acc.length + kvs.length := by
    intro kvs
    induction kvs with
    | nil => exact fun acc => Nat.le_refl _
    | cons e r ih =>
      intro acc
      have a := ih (putKD acc (kfO (itmD e)) (vfO (itmD e)))
      have b := putKD_len (kvs := acc) (k := kfO (itmD e)) (v := vfO (itmD e))
      rw [List.length_cons]
      show ((r.map itmD).foldl _ (putKD acc (kfO (itmD e)) (vfO (itmD e)))).length ≤ _
      omega
  have := key kvs []
  simpa using this
def ownD (kvs : List Ent) (r : Int) : D := (valD (ownersD kvs) (.inl r)).getD .non
theorem val_some {kvs : List (Key × D)} {k : Key} (h : k ∈ kvs.map (·.1)) : ∃ d, valD kvs k = some d := by
  unfold valD
  cases c : kvs.find? fun e => decide (e.1 = k) with
  | some e => exact ⟨e.2, rfl⟩
  | none =>
    obtain ⟨p, hp, e⟩ := List.mem_map.mp h
    exact absurd (decide_eq_true e) (List.find?_eq_none.mp c p hp)
theorem set_back {S : Sto} {m : Nat} {c d : Cell} (h : S[m]? = some d) : (S.set m c).set m d = S := by
  rw [List.set_set]
  rw [List.getElem?_eq_some_iff] at h
  obtain ⟨l, e⟩ := h
  rw [← e, List.set_getElem_self]
theorem order_reads (T : Tx K mg) {j m : Nat} {c : Tab} {D : YEnds} (h : HasT S j m c) (few : c.kvs.length ≤ 1000)
    (q : ∀ (ms : List Int) (ρ : List Sl), ms.Perm (ranksD c.kvs) → ms.Pairwise (· ≤ ·) → D.nx (ms.map (ownD c.kvs)) ρ (S ++ [.dct (ownersD c.kvs)])) : (gr_order (P := P) (w := w) (base := base) T).t D [] (startS 5 [.ptr j]) S := by
  unfold gr_order
  show ySeq _ _ _ _ _ _
  refine ⟨_, .refl, ?_⟩
  unfold yPlain
  walk_at "dd"
  refine sAttr_f (isI_ptr h.o) T.cl_Table T.n_Table_entries rfl ?_
  refine ⟨m, _, rfl, h.d, fun u => ?_⟩
  have g1 : (S.set m (.lck u (c.kvs.map kvE)))[m]? = some (.lck u (c.kvs.map kvE)) := set_at h.d
  have xs : (c.kvs.map kvE).map (fun p => Dt.D.tup [kD p.1, p.2]) = c.kvs.map itmD := by rw [List.map_map] <;> rfl
  rw [xs]
  refine dcC_pure kfO vfO g1 (by rw [List.length_map]; omega) (fun x hx Y N hY => ?_) ?_
  · obtain ⟨e, he, rfl⟩ := List.mem_map.mp hx
    unfold itmD at hY ⊢
    walk_at "dd"
    refine ⟨.inl e.2.1, rfl, ?_⟩
    walk_at "dd"
    exact hY
  rw [set_back h.d]
  refine (show NewD S _ (ownersD c.kvs) from ?_)
  refine .inr ⟨_, rfl, ?_⟩
  show ySeq _ _ _ _ _ _
  refine ⟨_, .refl, ?_⟩
  have hn : (S ++ [.dct (ownersD c.kvs)])[S.length]? = some (.dct (ownersD c.kvs)) := by rw [List.getElem?_append_right (Nat.le_refl _), Nat.sub_self] <;> rfl
  unfold yFor
  generalize hQ : LoopY (Dt.gName 2) _ _ = LY
  have LYq : ∀ ms : List Int, ms.Perm (ranksD c.kvs) → ms.Pairwise (· ≤ ·) → LY (ms.map .int) [] [.sh (.ptr j), .sh (.ptr S.length), .un, .un, .un] (S ++ [.dct (ownersD c.kvs)]) := by
    intro ms pm as
    subst hQ
    have own : ∀ r ∈ ms, valD (ownersD c.kvs) (.inl r) = some (ownD c.kvs r) := fun r hr => by
      have hr2 := pm.mem_iff.mp hr
      unfold ranksD at hr2
      obtain ⟨p, hp, er⟩ := List.mem_map.mp hr2
      obtain ⟨i, ei⟩ := owners_inl c.kvs p hp
      rw [ei] at er
      have er : i = r := er
      subst er
      obtain ⟨d, ed⟩ := val_some (k := .inl i) (List.mem_map.mpr ⟨p, hp, ei⟩)
      unfold ownD
      rw [ed] <;> rfl
    have hlen : ms.length ≤ 1000 := by
      rw [pm.length_eq]
      unfold ranksD
      rw [List.length_map]
      have := owners_len c.kvs
      omega
    refine loopY_inv (fun i ys ρ S' => ys = (ms.take i).map (ownD c.kvs) ∧ i ≤ ms.length ∧ S' = S ++ [.dct (ownersD c.kvs)] ∧ ∃ s, ρ = [.sh (.ptr j), .sh (.ptr S.length), s, .un, .un]) ⟨rfl, Nat.zero_le _, rfl, _, rfl⟩ (fun i x ys ρ S' Nx ex hI hn2 => ?_) fun ys ρ S' hI => ?_
    · obtain ⟨rfl, hi, rfl, s, rfl⟩ := hI
      rw [List.getElem?_map] at ex
      obtain ⟨r, er, rfl⟩ := Option.map_eq_some_iff.mp ex
      have hr := List.mem_of_getElem? er
      have hlt : i < ms.length := (List.getElem?_eq_some_iff.mp er).1
      show ySeq _ _ _ _ _ _
      refine ⟨_, .refl, ?_, ?_⟩
      · rw [List.length_map, List.length_take, sizeLine_eq]
        omega
      walk_at "dd"
      refine s_ixK (i := .inl r) (xs := ownersD c.kvs) hn (own r hr) ?_
      refine ⟨_, rfl, ?_⟩
      refine hn2 _ _ _ ⟨?_, hlt, rfl, _, rfl⟩
      rw [List.take_add_one, er, List.map_append] <;> rfl
    · obtain ⟨rfl, hi, rfl, s, rfl⟩ := hI
      rw [List.length_map, List.take_length]
      exact q ms _ pm as
  walk_at "dd"
  refine ⟨S.length, _, rfl, hn, fun u => ?_⟩
  have hl := owners_len c.kvs
  refine lcC_pure (fun _ => true) id (set_at hn) (by rw [List.length_map]; show (ownersD c.kvs).length ≤ _; omega) (fun x hx X Y h1 h3 => ?_) ?_
  · obtain ⟨p, hp, rfl⟩ := List.mem_map.mp hx
    obtain ⟨i, ei⟩ := owners_inl c.kvs p hp
    have ek : kD p.1 = .int i := by rw [ei] <;> rfl
    rw [ek] at h1 ⊢
    walk_at "dd"
    exact h1 rfl
  · rw [set_back hn]
    have er : List.map id (List.filter (fun _ => true) (List.map (fun p => kD p.1) (ownersD c.kvs))) = (ranksD c.kvs).map .int := by
      rw [List.map_id, List.filter_eq_self.mpr (fun _ _ => rfl)]
      unfold ranksD
      rw [List.map_map]
      refine List.map_congr_left fun p hp => ?_
      obtain ⟨i, ei⟩ := owners_inl c.kvs p hp
      show kD p.1 = Dt.D.int (match p.1 with | .inl i => i | .inr _ => 0)
      rw [ei] <;> rfl
    rw [er]
    refine (show sCall _ _ (.builtin "sorted") [] [.v (.lst ((ranksD c.kvs).map .int))] [] _ _ _ from ?_)
    refine c_sorted (ns := ranksD c.kvs) rfl fun ms pm as => .inl ?_
    exact ⟨_, rfl, LYq ms pm as⟩
end Toy

set_option Elab.async false
set_option linter.all false
set_option maxRecDepth 100000
set_option maxHeartbeats 1000000
namespace Toy
open PySem PySem.Spec PyProof.Rows L2 My Dt SX
local macro_rules | `(tactic| walk_at "rg") => `(tactic| first
  | omega
  | ((refine And.intro ?_ (And.intro ?_ (And.intro ?_ ?_))) <;> omega))
local macro_rules | `(tactic| walk_at "ls") => `(tactic| first
  | with_reducible exact ls_v
  | with_reducible exact ls_b
  | ((with_reducible refine' ls_p ?hlp); (case hlp => with_reducible assumption)))
local macro_rules | `(tactic| walk_at "start") => `(tactic| ((simp only [startM, startS, List.map_cons, List.map_nil, List.length_cons, List.length_nil, List.cons_append, List.nil_append, Nat.reduceAdd, Nat.reduceSub, List.replicate_succ, List.replicate_zero]); exact rfl))
local macro_rules | `(tactic| walk_at "set") => `(tactic| first
  | ((dsimp only [Int.reduceToNat, List.set_cons_zero, List.set_cons_succ, VO.sl]); done)
  | ((dsimp only [Int.reduceToNat, List.set_cons_zero, List.set_cons_succ, VO.sl]); exact rfl)
  | exact rfl)
local macro_rules | `(tactic| walk_at "sz") => `(tactic| first
  | exact sz_of (Nat.le_of_ble_eq_true rfl)
  | (apply sz_of; simp only [List.length_cons, List.length_nil, List.length_append, List.length_map]; omega))
local macro_rules | `(tactic| walk_at "side") => `(tactic| first
  | with_reducible assumption
  | omega
  | exact ml (by omega) (by omega)
  | exact mr (by omega) (by omega)
  | exact dv (by omega) (by omega)
  | exact Bd.mulOk (by with_reducible assumption) (by with_reducible assumption) (by decide) (by decide) (by decide)
  | exact Bd.div (by with_reducible assumption) (by omega) (by decide) (by decide)
  | (show (0 : Int) < _; omega)
  | exact ⟨by decide, by decide, by decide⟩
  | decide
  | exact rfl)
local macro_rules | `(tactic| walk_at "st") => `(tactic| first
  | with_reducible refine q_seq ?_
  | with_reducible refine q_end ?_
  | with_reducible refine q_nil ?_
  | with_reducible refine q_asg ?_
  | with_reducible refine q_asg2 ?_
  | with_reducible refine q_ret ?_
  | with_reducible refine q_if ?_
  | with_reducible refine q_expr ?_
  | with_reducible refine q_retN ?_
  | with_reducible refine q_sub ?_
  | with_reducible refine q_for ?_
  | with_reducible refine q_del ?_
  | with_reducible refine q_par ?_
  | with_reducible refine q_par3 ?_
  | with_reducible refine q_parV ?_
  | with_reducible refine q_parV3 ?_
  | with_reducible refine q_asgF ?_
  | with_reducible refine q_asgC ?_
  | ((with_reducible refine' q_frz ?ef ?_); (case ef => exact rfl))
  | ((with_reducible refine' q_app ?ea ?eb ?_); (case ea => exact rfl); (case eb => walk_at "slen"))
  | with_reducible refine q_brk ?_
  | with_reducible refine q_cnt ?_
  | with_reducible refine q_fldS ?_
  | with_reducible refine q_fldP ?_
  | with_reducible refine q_raise ?_
  | with_reducible refine q_try ?_)
local macro_rules | `(tactic| walk_at "slen") => `(tactic| first
  | with_reducible assumption
  | ((rw [sizeLine_eq]); (simp only [List.length_cons, List.length_nil, List.length_append, List.length_map]); omega))
local macro_rules | `(tactic| walk_at "sm") => `(tactic| first
  | with_reducible refine s_add ?_
  | with_reducible refine s_sub ?_
  | ((with_reducible refine' s_mul ?hm ?_); (case hm => walk_at "side"))
  | ((with_reducible refine' s_fdiv ?hm ?_); (case hm => walk_at "side"))
  | ((with_reducible refine' s_mod ?hm ?_); (case hm => walk_at "side"))
  | with_reducible refine s_neg ?_
  | ((with_reducible refine' s_pow ?hm ?_); (case hm => walk_at "side"))
  | ((with_reducible refine' s_ixL ?hl ?he ?_); (case hl => walk_at "ls"); (case he => exact rfl))
  | ((with_reducible refine' s_ixT ?he ?_); (case he => exact rfl))
  | ((with_reducible refine' set_L2 ?ha ?hb ?hc ?_); (case ha => with_reducible assumption); (case hb => exact rfl); (case hc => walk_at "set"))
  | with_reducible refine s_addB ?_
  | with_reducible refine s_lt ?_
  | with_reducible refine s_le ?_
  | with_reducible refine s_gt ?_
  | with_reducible refine s_ge ?_
  | with_reducible refine s_eq ?_
  | with_reducible refine s_ne ?_
  | ((with_reducible refine' s_neSame ?he ?_); (case he => with_reducible rfl))
  | ((with_reducible refine' s_eqSame ?he ?_); (case he => with_reducible rfl))
  | with_reducible refine s_eqS ?_
  | with_reducible refine s_neS ?_
  | with_reducible refine s_isN ?_
  | with_reducible refine s_isNotN ?_
  | with_reducible refine t_bl ?_)
local macro_rules | `(tactic| walk_at "cl") => `(tactic| first
  | with_reducible refine c_int ?_
  | with_reducible refine c_intB ?_
  | with_reducible refine c_abs ?_
  | ((with_reducible refine' c_max ?hm ?_); (case hm => exact rfl))
  | ((with_reducible refine' c_min ?hm ?_); (case hm => exact rfl))
  | ((with_reducible refine' c_divmod ?hm ?_); (case hm => walk_at "side"))
  | ((with_reducible refine' c_len ?hm ?_); (case hm => walk_at "sq"))
  | ((with_reducible refine' c_list ?hm ?_); (case hm => walk_at "sq"))
  | ((with_reducible refine' c_tuple ?hm ?_); (case hm => walk_at "sq")))
local macro_rules | `(tactic| walk_at "sq") => `(tactic| first
  | exact sqL
  | exact sqT
  | exact sqB
  | exact sqP (by with_reducible assumption))
local macro_rules | `(tactic| walk_at "v") => `(tactic| first
  | ((with_reducible refine' v_sh ?ev ?_); (case ev => exact rfl))
  | ((with_reducible refine' v_ol ?ev ?_); (case ev => exact rfl))
  | ((with_reducible refine' v_slf ?ev ?_); (case ev => exact rfl))
  | with_reducible refine q_val ?_
  | ((with_reducible refine' q_walk ?ew ?_); (case ew => exact rfl))
  | ((with_reducible refine' q_rng1 ?ej ?ek ?_); (case ej => walk_at "rg"); (case ek => walk_at "rg"))
  | ((with_reducible refine' q_rng2 ?ej ?_); (case ej => walk_at "rg"))
  | with_reducible refine q_rngL ?_
  | with_reducible refine q_solc ?_
  | with_reducible refine q_sol0 ?_
  | ((with_reducible refine' q_gname ?eg ?_); (case eg => walk_at "set"))
  | ((with_reducible refine' n_set ?eg ?_); (case eg => walk_at "set"))
  | ((with_reducible refine' n_set2 ?eg ?_); (case eg => walk_at "set"))
  | ((with_reducible refine' n_set3 ?eg ?_); (case eg => walk_at "set"))
  | with_reducible refine q_two ?_
  | with_reducible refine q_three ?_
  | with_reducible refine q_vv ?_
  | with_reducible refine q_isS ?_
  | with_reducible refine q_isL ?_
  | with_reducible refine q_twoV ?_
  | with_reducible refine q_threeV ?_
  | with_reducible refine q_bl ?_
  | with_reducible refine q_oint ?_
  | ((with_reducible refine' q_gtup ?el ?_); (case el => exact rfl))
  | with_reducible refine q_gcons ?_
  | with_reducible refine q_gnil ?_
  | with_reducible refine i_t ?_
  | with_reducible refine i_f ?_
  | with_reducible refine i_nt ?_
  | with_reducible refine i_nf ?_
  | ((with_reducible refine' n_t ?en ?_); (case en => exact rfl))
  | ((with_reducible refine' n_f ?en ?_); (case en => exact rfl))
  | ((with_reducible refine' nn_t ?en ?_); (case en => exact rfl))
  | ((with_reducible refine' nn_f ?en ?_); (case en => exact rfl))
  | with_reducible refine And.intro (by walk_at "sz") ?_)
local macro_rules | `(tactic| walk_at "d") => `(tactic| first
  | walk_at "v"
  | walk_at "st"
  | walk_at "sm"
  | walk_at "cl"
  | walk_at "at")
local macro_rules | `(tactic| walk_at "dd") => `(tactic| repeat walk_at "d")
local macro_rules | `(tactic| walk_at "tx") => `(tactic| simp only [l_dash, l_dot, l_nil, l_space, l_figs, l_signs])

variable {P : Program} {w : World} {K : PySem.W.Frag} {mg : Str → Option Value} {base : Heap} {S : Sto} {Ex : XS} {Q : QO}

def hasRank (kvs : List Ent) (r : Int) : Bool := kvs.any fun e => decide (e.2.1 = r)
def Tab.put (c : Tab) (i r : Int) (b : Bool) : Tab := { c.write i r b with size := c.size + 1, marked := c.marked + (if b then 1 else 0) }
def eqF (r : Int) : D → D := fun d => match d with
  | .tup (.int x :: _) => .bl (decide (x = r))
  | _ => .non
/-- what put does with its arguments -/
structure PutK (S : Sto) (j m : Nat) (c : Tab) (d rd md : D) (Ex : XS) (Q : Sto → Prop) : Prop where
  ok : ∀ i r b S', d = .int i → rd = .int r → md = .bl b → inR d 0 FAR = true → inR rd (-FAR) FAR = true → getE c.kvs i = none → hasRank c.kvs r = false → HasT S' j m (c.put i r b) → Bt2 j m S S' → Q S'
  e1 : inR d 0 FAR = false → Ex "InvalidNumber" [("number", d)] S
  e2 : ∀ i e, d = .int i → inR d 0 FAR = true → getE c.kvs i = some e → Ex "KnownRow" [("key", d)] S
  e3 : ∀ i, d = .int i → inR d 0 FAR = true → getE c.kvs i = none → inR rd (-FAR) FAR = false → Ex "InvalidNumber" [("number", rd)] S
  e4 : ∀ i r, d = .int i → inR d 0 FAR = true → getE c.kvs i = none → rd = .int r → inR rd (-FAR) FAR = true → hasRank c.kvs r = true → Ex "SameRank" [("rank", rd)] S
  e5 : ∀ i r, d = .int i → inR d 0 FAR = true → getE c.kvs i = none → rd = .int r → inR rd (-FAR) FAR = true → hasRank c.kvs r = false → isB md = none → Ex "InvalidMarked" [("value", md)] S
theorem ok_putG (T : Tx K mg) {ks : List Str} {ok : List D → List D → Prop} {ar : List D → List D → List D} {ds zs : List D} {j m : Nat} {c : Tab} {d rd md : D} (bm : BindM (bs P w K mg base) (Classical.choose T.d_Table_put) ["self", "key", "rank", "marked"] 0 ks ok ar) (hok : ok ds zs) (ea : ar ds zs = [.ptr j, d, rd, md])
    (h : HasT S j m c) (few : c.kvs.length ≤ 1000) (hd : smp d = true) (hr : smp rd = true) (p : PutK S j m c d rd md Ex fun S' => Q (.v .non) S') :
    sFun (bs P w K mg base) 5 (.ref (He.ma K (He.ga K "Table") "put")) ks ds zs S Ex Q := by
  refine' call_d (B := bs P w K mg base) (ρ0 := [.sh (.ptr j), .sh d, .sh rd, .sh md, .un]) 4 (Classical.choose_spec T.d_Table_put) sc_Table_put rfl bm (dss_cons (ds_expr (de_call rfl rfl ⟨T.g_check_key, (Classical.choose_spec T.d_check_key).kp⟩ (da_cons (dv 1) da_nil))) (dss_cons (ds_if (dt_cmp (dv 1) (de_attr (dv 0))) (dss_one (ds_raise rfl (er_KnownRow T) rfl (Nat.le_of_ble_eq_true rfl) (da_cons (dv 1) da_nil))) dss_nil) (dss_cons (ds_expr (de_call rfl rfl ⟨T.g_check_rank, (Classical.choose_spec T.d_check_rank).kp⟩ (da_cons (dv 2) da_nil))) (dss_cons (ds_if (dt_val (de_callB (id := "any") rfl T.f_any (by decide +kernel) (da_cons (DF.de (df_lcL (own := [("entry", 4)]) rfl (by decide) (dil_vals (de_attr (dv 0)) (fun _ => rfl) rfl) (blkOk_by (N := ["self", "key", "rank", "marked", "entry"]) (sc := defScope s_Table_put) (by decide +kernel)) (dgn 4) dts_nil (de_cmp (de_ix (dv 4) de_int (fun _ _ => rfl)) (dv 2)))) da_nil))) (dss_one (ds_raise rfl (er_SameRank T) rfl (Nat.le_of_ble_eq_true rfl) (da_cons (dv 2) da_nil))) dss_nil) (dss_cons (ds_expr (de_call rfl rfl ⟨T.g_check_mark, (Classical.choose_spec T.d_check_mark).kp⟩ (da_cons (dv 3) da_nil))) (dss_cons (ds_expr (de_me rfl (dv 0) (da_cons (dv 1) (da_cons (dv 2) (da_cons (dv 3) da_nil))))) (dss_cons (ds_fld (dv 0) (de_bin (de_attr (dv 0)) de_int)) (dss_one (ds_fld (dv 0) (de_bin (de_attr (dv 0)) (de_callT (T := "int") rfl T.f_int (by decide +kernel) (da_cons (dv 3) da_nil)))))))))))) hok ?st ?_
  case st => exact (congrArg (startS _) ea).trans rfl
  walk_at "dd"
  refine (ok_check_key T hd (fun r => ?_) fun r => p.e1 r).mono (Nat.le_of_ble_eq_true rfl)
  obtain ⟨i, rfl⟩ := atk r
  walk_at "dd"
  refine sAttr_f (isI_ptr h.o) T.cl_Table T.n_Table_entries rfl ?_
  walk_at "dd"
  refine s_inK (i := .inl i) (xs := c.kvs.map kvE) h.d ?_
  rw [valE]
  cases g : getE c.kvs i with
  | some e =>
    rw [show (Option.map entD (some e)).isSome = true from rfl]
    walk_at "dd"
    exact ⟨rfl, p.e2 i e rfl r g⟩
  | none =>
    rw [show (Option.map entD none).isSome = false from rfl]
    walk_at "dd"
    refine (ok_check_rank T hr (fun rr => ?_) fun rr => p.e3 i rfl r g rr).mono (Nat.le_of_ble_eq_true rfl)
    obtain ⟨r0, rfl, _⟩ := inR_of rr
    walk_at "dd"
    refine sAttr_f (isI_ptr h.o) T.cl_Table T.n_Table_entries rfl ?_
    refine ⟨m, _, rfl, h.d, fun u => ?_⟩
    refine lcC_pure (fun _ => true) (eqF r0) (set_at h.d) (by rw [List.length_map, List.length_map]; omega) (fun z hz X Y h1 h3 => ?_) ?_
    · rw [List.map_map] at hz
      obtain ⟨e, hp, rfl⟩ := List.mem_map.mp hz
      replace h1 : X (.v (.bl (decide (e.2.1 = r0)))) _ := h1 rfl
      show Dt.gName _ (entD e.2) _ _ _ _
      walk_at "dd"
      exact h1
    rw [set_back h.d]
    have er : (List.filter (fun _ => true) ((c.kvs.map kvE).map fun p => p.2)).map (eqF r0) = (c.kvs.map fun (e : Ent) => decide (e.2.1 = r0)).map .bl := by
      rw [List.filter_eq_self.mpr (fun _ _ => rfl), List.map_map, List.map_map, List.map_map] <;> rfl
    rw [er]
    refine (show sCall _ _ (.builtin "any") [] [.v (.lst ((c.kvs.map fun (e : Ent) => decide (e.2.1 = r0)).map .bl))] [] _ _ _ from ?_)
    refine c_any (bs := c.kvs.map fun (e : Ent) => decide (e.2.1 = r0)) rfl rfl ?_
    have ea : (c.kvs.map fun (e : Ent) => decide (e.2.1 = r0)).any id = hasRank c.kvs r0 := by
      rw [List.any_map] <;> rfl
    rw [ea]
    cases hk : hasRank c.kvs r0 with
    | true =>
      walk_at "dd"
      exact ⟨rfl, p.e4 i r0 rfl r g rfl rr hk⟩
    | false =>
      walk_at "dd"
      refine (ok_check_mark T (fun b eb => ?_) fun x => p.e5 i r0 rfl r g rfl rr hk x).mono (Nat.le_of_ble_eq_true rfl)
      subst eb
      walk_at "dd"
      refine q_meth ⟨_, isI_ptr h.o, T.cl_Table, T.m_Table_write, rfl⟩ ?_
      walk_at "dd"
      refine (ok_write T h few fun S1 h1 b1 => ?_).mono (Nat.le_of_ble_eq_true rfl)
      walk_at "dd"
      refine sAttr_f (isI_ptr h1.o) T.cl_Table T.n_Table_size rfl ?_
      walk_at "dd"
      refine ⟨_, j, "Table", _, rfl, rfl, h1.o, T.cl_Table, T.n_Table_size, Nat.le_of_ble_eq_true rfl, ?_⟩
      have h2 : HasT _ j m { c.write i r0 b with size := c.size + 1 } := HasT.setO h1 rfl
      walk_at "dd"
      refine sAttr_f (isI_ptr h2.o) T.cl_Table T.n_Table_marked rfl ?_
      walk_at "dd"
      refine ⟨_, j, "Table", _, rfl, rfl, h2.o, T.cl_Table, T.n_Table_marked, Nat.le_of_ble_eq_true rfl, ?_⟩
      have h3 : HasT _ j m (c.put i r0 b) := HasT.setO h2 rfl
      walk_at "dd"
      exact p.ok i r0 b _ rfl rfl rfl r rr g hk h3 ((b1.trans .set1).trans .set1)
theorem ok_put (T : Tx K mg) {j m : Nat} {c : Tab} {d rd md : D} (h : HasT S j m c) (few : c.kvs.length ≤ 1000) (hd : smp d = true) (hr : smp rd = true) (p : PutK S j m c d rd md Ex fun S' => Q (.v .non) S') :
    sFun (bs P w K mg base) 5 (.ref (He.ma K (He.ga K "Table") "put")) [] [.ptr j, d, rd, md] [] S Ex Q := ok_putG T (bm_dfl (ps := ["self", "key", "rank", "marked"]) (Classical.choose_spec T.d_Table_put) 4 1 (List.cons_ne_nil _ _) rfl (fun _ _ _ _ _ _ _ us its l1 l2 => match us, its, l1, l2 with | [_, _, _, _], [_], _, _ => ⟨_, rfl, rfl⟩) (fun _ => .nil)) ⟨rfl, rfl⟩ rfl h few hd hr p
theorem ok_put3 (T : Tx K mg) {j m : Nat} {c : Tab} {d rd : D} (h : HasT S j m c) (few : c.kvs.length ≤ 1000) (hd : smp d = true) (hr : smp rd = true) (p : PutK S j m c d rd (.bl false) Ex fun S' => Q (.v .non) S') :
    sFun (bs P w K mg base) 5 (.ref (He.ma K (He.ga K "Table") "put")) [] [.ptr j, d, rd] [] S Ex Q := ok_putG T (bm_dfl (ps := ["self", "key", "rank", "marked"]) (Classical.choose_spec T.d_Table_put) 3 0 (List.cons_ne_nil _ _) rfl (fun _ _ _ _ _ _ _ us its l1 l2 => match us, its, l1, l2 with | [_, _, _], [_], _, _ => ⟨_, rfl, rfl⟩) (fun _ => (.cons (.bl _) .nil))) ⟨rfl, rfl⟩ rfl h few hd hr p
def Tab.drop (c : Tab) (i : Int) (e : Int × Bool × Int) : Tab := { c with kvs := dropE c.kvs i, size := c.size - 1, marked := c.marked - (if e.2.1 then 1 else 0) }
theorem ok_dropG (T : Tx K mg) {ks : List Str} {ok : List D → List D → Prop} {ar : List D → List D → List D} {ds zs : List D} {j m : Nat} {c : Tab} {d : D} (bm : BindM (bs P w K mg base) (Classical.choose T.d_Table_drop) ["self", "key"] 0 ks ok ar) (hok : ok ds zs) (ea : ar ds zs = [.ptr j, d]) (h : HasT S j m c) (hd : smp d = true) (q : ∀ i e S', d = .int i → inR d 0 FAR = true → getE c.kvs i = some e → HasT S' j m (c.drop i e) → Bt2 j m S S' → Q (.v .non) S')
    (e1 : inR d 0 FAR = false → Ex "InvalidNumber" [("number", d)] S) (e2 : ∀ i, d = .int i → inR d 0 FAR = true → getE c.kvs i = none → Ex "UnknownRow" [("key", d)] S) :
    sFun (bs P w K mg base) 6 (.ref (He.ma K (He.ga K "Table") "drop")) ks ds zs S Ex Q := by
  refine' call_d (B := bs P w K mg base) (ρ0 := [.sh (.ptr j), .sh d, .un]) 5 (Classical.choose_spec T.d_Table_drop) sc_Table_drop rfl bm (dss_cons (dst 2 (de_me rfl (dv 0) (da_cons (dv 1) da_nil))) (dss_cons (ds_del (de_attr (dv 0)) (dv 1)) (dss_cons (ds_fld (dv 0) (de_bin (de_attr (dv 0)) de_int)) (dss_one (ds_fld (dv 0) (de_bin (de_attr (dv 0)) (de_callT (T := "int") rfl T.f_int (by decide +kernel) (da_cons (de_ix (dv 2) de_int (fun _ _ => rfl)) da_nil)))))))) hok ?st ?_
  case st => exact (congrArg (startS _) ea).trans rfl
  walk_at "dd"
  refine q_meth ⟨_, isI_ptr h.o, T.cl_Table, T.m_Table_entry_of, rfl⟩ ?_
  walk_at "dd"
  refine (ok_entry_of T h hd (fun i e ed r g => ?_) e1 e2).mono (Nat.le_of_ble_eq_true rfl)
  subst ed
  walk_at "dd"
  refine sAttr_f (isI_ptr h.o) T.cl_Table T.n_Table_entries rfl ?_
  walk_at "dd"
  refine ⟨m, _, .inl i, rfl, rfl, h.d, by rw [valE, g] <;> rfl, ?_⟩
  rw [dropE_eq]
  have h2 : HasT _ j m { c with kvs := dropE c.kvs i } := HasT.setD h rfl
  walk_at "dd"
  refine sAttr_f (isI_ptr h2.o) T.cl_Table T.n_Table_size rfl ?_
  walk_at "dd"
  refine ⟨_, j, "Table", _, rfl, rfl, h2.o, T.cl_Table, T.n_Table_size, Nat.le_of_ble_eq_true rfl, ?_⟩
  have h3 : HasT _ j m { c with kvs := dropE c.kvs i, size := c.size - 1 } := HasT.setO h2 rfl
  walk_at "dd"
  refine sAttr_f (isI_ptr h3.o) T.cl_Table T.n_Table_marked rfl ?_
  walk_at "dd"
  refine ⟨_, j, "Table", _, rfl, rfl, h3.o, T.cl_Table, T.n_Table_marked, Nat.le_of_ble_eq_true rfl, ?_⟩
  have h4 : HasT _ j m (c.drop i e) := HasT.setO h3 rfl
  walk_at "dd"
  exact q i e _ rfl r g h4 ((Bt2.set2.trans .set1).trans .set1)
theorem ok_mark_ofG (T : Tx K mg) {ks : List Str} {ok : List D → List D → Prop} {ar : List D → List D → List D} {ds zs : List D} {j m : Nat} {c : Tab} {d : D} (bm : BindM (bs P w K mg base) (Classical.choose T.d_Table_mark_of) ["self", "key"] 0 ks ok ar) (hok : ok ds zs) (ea : ar ds zs = [.ptr j, d]) (h : HasT S j m c) (hd : smp d = true) (q : ∀ i e, d = .int i → inR d 0 FAR = true → getE c.kvs i = some e → Q (.v (.bl e.2.1)) S)
    (e1 : inR d 0 FAR = false → Ex "InvalidNumber" [("number", d)] S) (e2 : ∀ i, d = .int i → inR d 0 FAR = true → getE c.kvs i = none → Ex "UnknownRow" [("key", d)] S) :
    sFun (bs P w K mg base) 6 (.ref (He.ma K (He.ga K "Table") "mark_of")) ks ds zs S Ex Q := by
  refine' call_d (B := bs P w K mg base) (ρ0 := [.sh (.ptr j), .sh d]) 5 (Classical.choose_spec T.d_Table_mark_of) sc_Table_mark_of rfl bm (dss_one (ds_ret (de_ix (de_me rfl (dv 0) (da_cons (dv 1) da_nil)) de_int (fun _ _ => rfl)))) hok ?st ?_
  case st => exact (congrArg (startS _) ea).trans rfl
  walk_at "dd"
  refine q_meth ⟨_, isI_ptr h.o, T.cl_Table, T.m_Table_entry_of, rfl⟩ ?_
  walk_at "dd"
  refine (ok_entry_of T h hd (fun i e ed r g => ?_) e1 e2).mono (Nat.le_of_ble_eq_true rfl)
  subst ed
  walk_at "dd"
  exact q i e rfl r g
theorem ok_mark_of (T : Tx K mg) {j m : Nat} {c : Tab} {d : D} (h : HasT S j m c) (hd : smp d = true) (q : ∀ i e, d = .int i → inR d 0 FAR = true → getE c.kvs i = some e → Q (.v (.bl e.2.1)) S)
    (e1 : inR d 0 FAR = false → Ex "InvalidNumber" [("number", d)] S) (e2 : ∀ i, d = .int i → inR d 0 FAR = true → getE c.kvs i = none → Ex "UnknownRow" [("key", d)] S) :
    sFun (bs P w K mg base) 6 (.ref (He.ma K (He.ga K "Table") "mark_of")) [] [.ptr j, d] [] S Ex Q := ok_mark_ofG T (bm_all (ps := ["self", "key"]) (Classical.choose_spec T.d_Table_mark_of) (fun _ _ _ _ _ _ us hl => match us, hl with | [_, _], _ => rfl)) ⟨rfl, rfl⟩ rfl h hd q e1 e2
theorem ok_mark_ofK (T : Tx K mg) {j m : Nat} {c : Tab} {d : D} (h : HasT S j m c) (hd : smp d = true) (q : ∀ i e, d = .int i → inR d 0 FAR = true → getE c.kvs i = some e → Q (.v (.bl e.2.1)) S)
    (e1 : inR d 0 FAR = false → Ex "InvalidNumber" [("number", d)] S) (e2 : ∀ i, d = .int i → inR d 0 FAR = true → getE c.kvs i = none → Ex "UnknownRow" [("key", d)] S) :
    sFun (bs P w K mg base) 6 (.ref (He.ma K (He.ga K "Table") "mark_of")) ["key"] [.ptr j] [d] S Ex Q := ok_mark_ofG T (bm_key (ps := ["self", "key"]) (Classical.choose_spec T.d_Table_mark_of) 1 ["key"] [(true, 0)]  (by decide) rfl (by decide) (fun _ _ _ _ _ _ us ws l1 l2 => match us, ws, l1, l2 with | [_], [_], _, _ => rfl)) ⟨rfl, rfl⟩ rfl h hd q e1 e2
end Toy

set_option Elab.async false
set_option linter.all false
set_option maxRecDepth 100000
set_option maxHeartbeats 1000000
namespace Toy
open PySem PySem.Spec PyProof.Rows L2 My Dt SX
local macro_rules | `(tactic| walk_at "rg") => `(tactic| first
  | omega
  | ((refine And.intro ?_ (And.intro ?_ (And.intro ?_ ?_))) <;> omega))
local macro_rules | `(tactic| walk_at "ls") => `(tactic| first
  | with_reducible exact ls_v
  | with_reducible exact ls_b
  | ((with_reducible refine' ls_p ?hlp); (case hlp => with_reducible assumption)))
local macro_rules | `(tactic| walk_at "start") => `(tactic| ((simp only [startM, startS, List.map_cons, List.map_nil, List.length_cons, List.length_nil, List.cons_append, List.nil_append, Nat.reduceAdd, Nat.reduceSub, List.replicate_succ, List.replicate_zero]); exact rfl))
local macro_rules | `(tactic| walk_at "set") => `(tactic| first
  | ((dsimp only [Int.reduceToNat, List.set_cons_zero, List.set_cons_succ, VO.sl]); done)
  | ((dsimp only [Int.reduceToNat, List.set_cons_zero, List.set_cons_succ, VO.sl]); exact rfl)
  | exact rfl)
local macro_rules | `(tactic| walk_at "sz") => `(tactic| first
  | exact sz_of (Nat.le_of_ble_eq_true rfl)
  | (apply sz_of; simp only [List.length_cons, List.length_nil, List.length_append, List.length_map]; omega))
local macro_rules | `(tactic| walk_at "side") => `(tactic| first
  | with_reducible assumption
  | omega
  | exact ml (by omega) (by omega)
  | exact mr (by omega) (by omega)
  | exact dv (by omega) (by omega)
  | exact Bd.mulOk (by with_reducible assumption) (by with_reducible assumption) (by decide) (by decide) (by decide)
  | exact Bd.div (by with_reducible assumption) (by omega) (by decide) (by decide)
  | (show (0 : Int) < _; omega)
  | exact ⟨by decide, by decide, by decide⟩
  | decide
  | exact rfl)
local macro_rules | `(tactic| walk_at "st") => `(tactic| first
  | with_reducible refine q_seq ?_
  | with_reducible refine q_end ?_
  | with_reducible refine q_nil ?_
  | with_reducible refine q_asg ?_
  | with_reducible refine q_asg2 ?_
  | with_reducible refine q_ret ?_
  | with_reducible refine q_if ?_
  | with_reducible refine q_expr ?_
  | with_reducible refine q_retN ?_
  | with_reducible refine q_sub ?_
  | with_reducible refine q_for ?_
  | with_reducible refine q_del ?_
  | with_reducible refine q_par ?_
  | with_reducible refine q_par3 ?_
  | with_reducible refine q_parV ?_
  | with_reducible refine q_parV3 ?_
  | with_reducible refine q_asgF ?_
  | with_reducible refine q_asgC ?_
  | ((with_reducible refine' q_frz ?ef ?_); (case ef => exact rfl))
  | ((with_reducible refine' q_app ?ea ?eb ?_); (case ea => exact rfl); (case eb => walk_at "slen"))
  | with_reducible refine q_brk ?_
  | with_reducible refine q_cnt ?_
  | with_reducible refine q_fldS ?_
  | with_reducible refine q_fldP ?_
  | with_reducible refine q_raise ?_
  | with_reducible refine q_try ?_)
local macro_rules | `(tactic| walk_at "slen") => `(tactic| first
  | with_reducible assumption
  | ((rw [sizeLine_eq]); (simp only [List.length_cons, List.length_nil, List.length_append, List.length_map]); omega))
local macro_rules | `(tactic| walk_at "sm") => `(tactic| first
  | with_reducible refine s_add ?_
  | with_reducible refine s_sub ?_
  | ((with_reducible refine' s_mul ?hm ?_); (case hm => walk_at "side"))
  | ((with_reducible refine' s_fdiv ?hm ?_); (case hm => walk_at "side"))
  | ((with_reducible refine' s_mod ?hm ?_); (case hm => walk_at "side"))
  | with_reducible refine s_neg ?_
  | ((with_reducible refine' s_pow ?hm ?_); (case hm => walk_at "side"))
  | ((with_reducible refine' s_ixL ?hl ?he ?_); (case hl => walk_at "ls"); (case he => exact rfl))
  | ((with_reducible refine' s_ixT ?he ?_); (case he => exact rfl))
  | ((with_reducible refine' set_L2 ?ha ?hb ?hc ?_); (case ha => with_reducible assumption); (case hb => exact rfl); (case hc => walk_at "set"))
  | with_reducible refine s_addB ?_
  | with_reducible refine s_lt ?_
  | with_reducible refine s_le ?_
  | with_reducible refine s_gt ?_
  | with_reducible refine s_ge ?_
  | with_reducible refine s_eq ?_
  | with_reducible refine s_ne ?_
  | ((with_reducible refine' s_neSame ?he ?_); (case he => with_reducible rfl))
  | ((with_reducible refine' s_eqSame ?he ?_); (case he => with_reducible rfl))
  | with_reducible refine s_eqS ?_
  | with_reducible refine s_neS ?_
  | with_reducible refine s_isN ?_
  | with_reducible refine s_isNotN ?_
  | with_reducible refine t_bl ?_)
local macro_rules | `(tactic| walk_at "cl") => `(tactic| first
  | with_reducible refine c_int ?_
  | with_reducible refine c_intB ?_
  | with_reducible refine c_abs ?_
  | ((with_reducible refine' c_max ?hm ?_); (case hm => exact rfl))
  | ((with_reducible refine' c_min ?hm ?_); (case hm => exact rfl))
  | ((with_reducible refine' c_divmod ?hm ?_); (case hm => walk_at "side"))
  | ((with_reducible refine' c_len ?hm ?_); (case hm => walk_at "sq"))
  | ((with_reducible refine' c_list ?hm ?_); (case hm => walk_at "sq"))
  | ((with_reducible refine' c_tuple ?hm ?_); (case hm => walk_at "sq")))
local macro_rules | `(tactic| walk_at "sq") => `(tactic| first
  | exact sqL
  | exact sqT
  | exact sqB
  | exact sqP (by with_reducible assumption))
local macro_rules | `(tactic| walk_at "v") => `(tactic| first
  | ((with_reducible refine' v_sh ?ev ?_); (case ev => exact rfl))
  | ((with_reducible refine' v_ol ?ev ?_); (case ev => exact rfl))
  | ((with_reducible refine' v_slf ?ev ?_); (case ev => exact rfl))
  | with_reducible refine q_val ?_
  | ((with_reducible refine' q_walk ?ew ?_); (case ew => exact rfl))
  | ((with_reducible refine' q_rng1 ?ej ?ek ?_); (case ej => walk_at "rg"); (case ek => walk_at "rg"))
  | ((with_reducible refine' q_rng2 ?ej ?_); (case ej => walk_at "rg"))
  | with_reducible refine q_rngL ?_
  | with_reducible refine q_solc ?_
  | with_reducible refine q_sol0 ?_
  | ((with_reducible refine' q_gname ?eg ?_); (case eg => walk_at "set"))
  | ((with_reducible refine' n_set ?eg ?_); (case eg => walk_at "set"))
  | ((with_reducible refine' n_set2 ?eg ?_); (case eg => walk_at "set"))
  | ((with_reducible refine' n_set3 ?eg ?_); (case eg => walk_at "set"))
  | with_reducible refine q_two ?_
  | with_reducible refine q_three ?_
  | with_reducible refine q_vv ?_
  | with_reducible refine q_isS ?_
  | with_reducible refine q_isL ?_
  | with_reducible refine q_twoV ?_
  | with_reducible refine q_threeV ?_
  | with_reducible refine q_bl ?_
  | with_reducible refine q_oint ?_
  | ((with_reducible refine' q_gtup ?el ?_); (case el => exact rfl))
  | with_reducible refine q_gcons ?_
  | with_reducible refine q_gnil ?_
  | with_reducible refine i_t ?_
  | with_reducible refine i_f ?_
  | with_reducible refine i_nt ?_
  | with_reducible refine i_nf ?_
  | ((with_reducible refine' n_t ?en ?_); (case en => exact rfl))
  | ((with_reducible refine' n_f ?en ?_); (case en => exact rfl))
  | ((with_reducible refine' nn_t ?en ?_); (case en => exact rfl))
  | ((with_reducible refine' nn_f ?en ?_); (case en => exact rfl))
  | with_reducible refine And.intro (by walk_at "sz") ?_)
local macro_rules | `(tactic| walk_at "d") => `(tactic| first
  | walk_at "v"
  | walk_at "st"
  | walk_at "sm"
  | walk_at "cl"
  | walk_at "at")
local macro_rules | `(tactic| walk_at "dd") => `(tactic| repeat walk_at "d")
local macro_rules | `(tactic| walk_at "tx") => `(tactic| simp only [l_dash, l_dot, l_nil, l_space, l_figs, l_signs])

variable {P : Program} {w : World} {K : PySem.W.Frag} {mg : Str → Option Value} {base : Heap} {S : Sto} {Ex : XS} {Q : QO}

def Tab.change (c : Tab) (i : Int) (e : Int × Bool × Int) (b : Bool) : Tab := { c.write i e.1 b with marked := c.marked - (if e.2.1 then 1 else 0) + (if b then 1 else 0) }
theorem ok_changeG (T : Tx K mg) {ks : List Str} {ok : List D → List D → Prop} {ar : List D → List D → List D} {ds zs : List D} {j m : Nat} {c : Tab} {d md : D} (bm : BindM (bs P w K mg base) (Classical.choose T.d_Table_change) ["self", "key", "marked"] 0 ks ok ar) (hok : ok ds zs) (ea : ar ds zs = [.ptr j, d, md]) (h : HasT S j m c) (few : c.kvs.length ≤ 1000) (hd : smp d = true) (q : ∀ i e b S', d = .int i → md = .bl b → inR d 0 FAR = true → getE c.kvs i = some e → HasT S' j m (c.change i e b) → Bt2 j m S S' → Q (.v .non) S')
    (e1 : inR d 0 FAR = false → Ex "InvalidNumber" [("number", d)] S) (e2 : ∀ i, d = .int i → inR d 0 FAR = true → getE c.kvs i = none → Ex "UnknownRow" [("key", d)] S) (e3 : ∀ i e, d = .int i → inR d 0 FAR = true → getE c.kvs i = some e → isB md = none → Ex "InvalidMarked" [("value", md)] S) :
    sFun (bs P w K mg base) 6 (.ref (He.ma K (He.ga K "Table") "change")) ks ds zs S Ex Q := by
  refine' call_d (B := bs P w K mg base) (ρ0 := [.sh (.ptr j), .sh d, .sh md, .un]) 5 (Classical.choose_spec T.d_Table_change) sc_Table_change rfl bm (dss_cons (dst 3 (de_me rfl (dv 0) (da_cons (dv 1) da_nil))) (dss_cons (ds_expr (de_call rfl rfl ⟨T.g_check_mark, (Classical.choose_spec T.d_check_mark).kp⟩ (da_cons (dv 2) da_nil))) (dss_cons (ds_expr (de_me rfl (dv 0) (da_cons (dv 1) (da_cons (de_ix (dv 3) de_int (fun _ _ => rfl)) (da_cons (dv 2) da_nil))))) (dss_one (ds_fld (dv 0) (de_bin (de_bin (de_attr (dv 0)) (de_callT (T := "int") rfl T.f_int (by decide +kernel) (da_cons (de_ix (dv 3) de_int (fun _ _ => rfl)) da_nil))) (de_callT (T := "int") rfl T.f_int (by decide +kernel) (da_cons (dv 2) da_nil)))))))) hok ?st ?_
  case st => exact (congrArg (startS _) ea).trans rfl
  walk_at "dd"
  refine q_meth ⟨_, isI_ptr h.o, T.cl_Table, T.m_Table_entry_of, rfl⟩ ?_
  walk_at "dd"
  refine (ok_entry_of T h hd (fun i e ed r g => ?_) e1 e2).mono (Nat.le_of_ble_eq_true rfl)
  subst ed
  walk_at "dd"
  refine (ok_check_mark T (fun b eb => ?_) fun x => e3 i e rfl r g x).mono (Nat.le_of_ble_eq_true rfl)
  subst eb
  walk_at "dd"
  refine q_meth ⟨_, isI_ptr h.o, T.cl_Table, T.m_Table_write, rfl⟩ ?_
  walk_at "dd"
  refine (ok_write T h few fun S1 h1 b1 => ?_).mono (Nat.le_of_ble_eq_true rfl)
  walk_at "dd"
  refine sAttr_f (isI_ptr h1.o) T.cl_Table T.n_Table_marked rfl ?_
  walk_at "dd"
  refine ⟨_, j, "Table", _, rfl, rfl, h1.o, T.cl_Table, T.n_Table_marked, Nat.le_of_ble_eq_true rfl, ?_⟩
  have h2 : HasT _ j m (c.change i e b) := HasT.setO h1 rfl
  walk_at "dd"
  exact q i e b _ rfl rfl r g h2 (b1.trans .set1)
end Toy

set_option Elab.async false
set_option linter.all false
set_option maxRecDepth 100000
set_option maxHeartbeats 1000000
namespace Toy
open PySem PySem.Spec PyProof.Rows L2 My Dt SX
local macro_rules | `(tactic| walk_at "rg") => `(tactic| first
  | omega
  | ((refine And.intro ?_ (And.intro ?_ (And.intro ?_ ?_))) <;> omega))
local macro_rules | `(tactic| walk_at "ls") => `(tactic| first
  | with_reducible exact ls_v
  | with_reducible exact ls_b
  | ((with_reducible refine' ls_p ?hlp); (case hlp => with_reducible assumption)))
local macro_rules | `(tactic| walk_at "start") => `(tactic| ((simp only [startM, startS, List.map_cons, List.map_nil, List.length_cons, List.length_nil, List.cons_append, List.nil_append, Nat.reduceAdd, Nat.reduceSub, List.replicate_succ, List.replicate_zero]); exact rfl))
local macro_rules | `(tactic| walk_at "set") => `(tactic| first
  | ((dsimp only [Int.reduceToNat, List.set_cons_zero, List.set_cons_succ, VO.sl]); done)
  | ((dsimp only [Int.reduceToNat, List.set_cons_zero, List.set_cons_succ, VO.sl]); exact rfl)
  | exact rfl)
local macro_rules | `(tactic| walk_at "sz") => `(tactic| first
  | exact sz_of (Nat.le_of_ble_eq_true rfl)
  | (apply sz_of; simp only [List.length_cons, List.length_nil, List.length_append, List.length_map]; omega))
local macro_rules | `(tactic| walk_at "side") => `(tactic| first
  | with_reducible assumption
  | omega
  | exact ml (by omega) (by omega)
  | exact mr (by omega) (by omega)
  | exact dv (by omega) (by omega)
  | exact Bd.mulOk (by with_reducible assumption) (by with_reducible assumption) (by decide) (by decide) (by decide)
  | exact Bd.div (by with_reducible assumption) (by omega) (by decide) (by decide)
  | (show (0 : Int) < _; omega)
  | exact ⟨by decide, by decide, by decide⟩
  | decide
  | exact rfl)
local macro_rules | `(tactic| walk_at "st") => `(tactic| first
  | with_reducible refine q_seq ?_
  | with_reducible refine q_end ?_
  | with_reducible refine q_nil ?_
  | with_reducible refine q_asg ?_
  | with_reducible refine q_asg2 ?_
  | with_reducible refine q_ret ?_
  | with_reducible refine q_if ?_
  | with_reducible refine q_expr ?_
  | with_reducible refine q_retN ?_
  | with_reducible refine q_sub ?_
  | with_reducible refine q_for ?_
  | with_reducible refine q_del ?_
  | with_reducible refine q_par ?_
  | with_reducible refine q_par3 ?_
  | with_reducible refine q_parV ?_
  | with_reducible refine q_parV3 ?_
  | with_reducible refine q_asgF ?_
  | with_reducible refine q_asgC ?_
  | ((with_reducible refine' q_frz ?ef ?_); (case ef => exact rfl))
  | ((with_reducible refine' q_app ?ea ?eb ?_); (case ea => exact rfl); (case eb => walk_at "slen"))
  | with_reducible refine q_brk ?_
  | with_reducible refine q_cnt ?_
  | with_reducible refine q_fldS ?_
  | with_reducible refine q_fldP ?_
  | with_reducible refine q_raise ?_
  | with_reducible refine q_try ?_)
local macro_rules | `(tactic| walk_at "slen") => `(tactic| first
  | with_reducible assumption
  | ((rw [sizeLine_eq]); (simp only [List.length_cons, List.length_nil, List.length_append, List.length_map]); omega))
local macro_rules | `(tactic| walk_at "sm") => `(tactic| first
  | with_reducible refine s_add ?_
  | with_reducible refine s_sub ?_
  | ((with_reducible refine' s_mul ?hm ?_); (case hm => walk_at "side"))
  | ((with_reducible refine' s_fdiv ?hm ?_); (case hm => walk_at "side"))
  | ((with_reducible refine' s_mod ?hm ?_); (case hm => walk_at "side"))
  | with_reducible refine s_neg ?_
  | ((with_reducible refine' s_pow ?hm ?_); (case hm => walk_at "side"))
  | ((with_reducible refine' s_ixL ?hl ?he ?_); (case hl => walk_at "ls"); (case he => exact rfl))
  | ((with_reducible refine' s_ixT ?he ?_); (case he => exact rfl))
  | ((with_reducible refine' set_L2 ?ha ?hb ?hc ?_); (case ha => with_reducible assumption); (case hb => exact rfl); (case hc => walk_at "set"))
  | with_reducible refine s_addB ?_
  | with_reducible refine s_lt ?_
  | with_reducible refine s_le ?_
  | with_reducible refine s_gt ?_
  | with_reducible refine s_ge ?_
  | with_reducible refine s_eq ?_
  | with_reducible refine s_ne ?_
  | ((with_reducible refine' s_neSame ?he ?_); (case he => with_reducible rfl))
  | ((with_reducible refine' s_eqSame ?he ?_); (case he => with_reducible rfl))
  | with_reducible refine s_eqS ?_
  | with_reducible refine s_neS ?_
  | with_reducible refine s_isN ?_
  | with_reducible refine s_isNotN ?_
  | with_reducible refine t_bl ?_)
local macro_rules | `(tactic| walk_at "cl") => `(tactic| first
  | with_reducible refine c_int ?_
  | with_reducible refine c_intB ?_
  | with_reducible refine c_abs ?_
  | ((with_reducible refine' c_max ?hm ?_); (case hm => exact rfl))
  | ((with_reducible refine' c_min ?hm ?_); (case hm => exact rfl))
  | ((with_reducible refine' c_divmod ?hm ?_); (case hm => walk_at "side"))
  | ((with_reducible refine' c_len ?hm ?_); (case hm => walk_at "sq"))
  | ((with_reducible refine' c_list ?hm ?_); (case hm => walk_at "sq"))
  | ((with_reducible refine' c_tuple ?hm ?_); (case hm => walk_at "sq")))
local macro_rules | `(tactic| walk_at "sq") => `(tactic| first
  | exact sqL
  | exact sqT
  | exact sqB
  | exact sqP (by with_reducible assumption))
local macro_rules | `(tactic| walk_at "v") => `(tactic| first
  | ((with_reducible refine' v_sh ?ev ?_); (case ev => exact rfl))
  | ((with_reducible refine' v_ol ?ev ?_); (case ev => exact rfl))
  | ((with_reducible refine' v_slf ?ev ?_); (case ev => exact rfl))
  | with_reducible refine q_val ?_
  | ((with_reducible refine' q_walk ?ew ?_); (case ew => exact rfl))
  | ((with_reducible refine' q_rng1 ?ej ?ek ?_); (case ej => walk_at "rg"); (case ek => walk_at "rg"))
  | ((with_reducible refine' q_rng2 ?ej ?_); (case ej => walk_at "rg"))
  | with_reducible refine q_rngL ?_
  | with_reducible refine q_solc ?_
  | with_reducible refine q_sol0 ?_
  | ((with_reducible refine' q_gname ?eg ?_); (case eg => walk_at "set"))
  | ((with_reducible refine' n_set ?eg ?_); (case eg => walk_at "set"))
  | ((with_reducible refine' n_set2 ?eg ?_); (case eg => walk_at "set"))
  | ((with_reducible refine' n_set3 ?eg ?_); (case eg => walk_at "set"))
  | with_reducible refine q_two ?_
  | with_reducible refine q_three ?_
  | with_reducible refine q_vv ?_
  | with_reducible refine q_isS ?_
  | with_reducible refine q_isL ?_
  | with_reducible refine q_twoV ?_
  | with_reducible refine q_threeV ?_
  | with_reducible refine q_bl ?_
  | with_reducible refine q_oint ?_
  | ((with_reducible refine' q_gtup ?el ?_); (case el => exact rfl))
  | with_reducible refine q_gcons ?_
  | with_reducible refine q_gnil ?_
  | with_reducible refine i_t ?_
  | with_reducible refine i_f ?_
  | with_reducible refine i_nt ?_
  | with_reducible refine i_nf ?_
  | ((with_reducible refine' n_t ?en ?_); (case en => exact rfl))
  | ((with_reducible refine' n_f ?en ?_); (case en => exact rfl))
  | ((with_reducible refine' nn_t ?en ?_); (case en => exact rfl))
  | ((with_reducible refine' nn_f ?en ?_); (case en => exact rfl))
  | with_reducible refine And.intro (by walk_at "sz") ?_)
local macro_rules | `(tactic| walk_at "d") => `(tactic| first
  | walk_at "v"
  | walk_at "st"
  | walk_at "sm"
  | walk_at "cl"
  | walk_at "at")
local macro_rules | `(tactic| walk_at "dd") => `(tactic| repeat walk_at "d")
local macro_rules | `(tactic| walk_at "tx") => `(tactic| simp only [l_dash, l_dot, l_nil, l_space, l_figs, l_signs])

variable {P : Program} {w : World} {K : PySem.W.Frag} {mg : Str → Option Value} {base : Heap} {S : Sto} {Ex : XS} {Q : QO}

def newT : Tab := ⟨[], 0, 0, 0⟩
theorem ok_Table (T : Tx K mg) (q : ∀ S', S' = S ++ [.dct []] ++ [.ins "Table" (tabF S.length newT)] → Q (.v (.ptr (S.length + 1))) S') :
    sFun (bs P w K mg base) 2 (.ref (He.ga K "Table")) [] [] [] S Ex Q := by
  refine' call_m (B := bs P w K mg base) 0 T.mk_Table (Classical.choose_spec T.d_Table__init) sc_Table__init rfl (bm_all (ps := ["self"]) (Classical.choose_spec T.d_Table__init) (fun _ _ _ _ _ _ us hl => match us, hl with | [_], _ => rfl)) (dss_cons (ds_self (i := 0) rfl (.inl rfl) de_dnew) (dss_cons (ds_self (i := 0) rfl (.inl rfl) de_int) (dss_cons (ds_self (i := 0) rfl (.inl rfl) de_int) (dss_one (ds_self (i := 0) rfl (.inl rfl) de_int))))) ?ok ?st ?_
  case st => exact (show _ = [Sl.slf "Table" []] from rfl)
  case ok => exact ⟨rfl, rfl⟩
  walk_at "dd"
  refine .inr ?_
  refine' f_fldS ?a1 T.cl_Table T.n_Table_entries ?b1 ?_
  case a1 => exact rfl
  case b1 => decide
  walk_at "dd"
  refine ⟨_, _, _, rfl, rfl, T.cl_Table, T.n_Table_writes, Nat.le_of_ble_eq_true rfl, ?_⟩
  walk_at "dd"
  refine ⟨_, _, _, rfl, rfl, T.cl_Table, T.n_Table_size, Nat.le_of_ble_eq_true rfl, ?_⟩
  walk_at "dd"
  refine ⟨_, _, _, rfl, rfl, T.cl_Table, T.n_Table_marked, Nat.le_of_ble_eq_true rfl, ?_⟩
  refine ⟨_, rfl, .inr ?_⟩
  have q := q _ rfl
  have ln : (S ++ [Cell.dct []]).length = S.length + 1 := by rw [List.length_append] <;> rfl
  rw [ln]
  exact q
end Toy

set_option Elab.async false
set_option linter.all false
set_option maxRecDepth 100000
set_option maxHeartbeats 1000000
namespace Toy
open PySem PySem.Spec PyProof.Rows L2 My Dt SX
local macro_rules | `(tactic| walk_at "rg") => `(tactic| first
  | omega
  | ((refine And.intro ?_ (And.intro ?_ (And.intro ?_ ?_))) <;> omega))
local macro_rules | `(tactic| walk_at "ls") => `(tactic| first
  | with_reducible exact ls_v
  | with_reducible exact ls_b
  | ((with_reducible refine' ls_p ?hlp); (case hlp => with_reducible assumption)))
local macro_rules | `(tactic| walk_at "start") => `(tactic| ((simp only [startM, startS, List.map_cons, List.map_nil, List.length_cons, List.length_nil, List.cons_append, List.nil_append, Nat.reduceAdd, Nat.reduceSub, List.replicate_succ, List.replicate_zero]); exact rfl))
local macro_rules | `(tactic| walk_at "set") => `(tactic| first
  | ((dsimp only [Int.reduceToNat, List.set_cons_zero, List.set_cons_succ, VO.sl]); done)
  | ((dsimp only [Int.reduceToNat, List.set_cons_zero, List.set_cons_succ, VO.sl]); exact rfl)
  | exact rfl)
local macro_rules | `(tactic| walk_at "sz") => `(tactic| first
  | exact sz_of (Nat.le_of_ble_eq_true rfl)
  | (apply sz_of; simp only [List.length_cons, List.length_nil, List.length_append, List.length_map]; omega))
local macro_rules | `(tactic| walk_at "side") => `(tactic| first
  | with_reducible assumption
  | omega
  | exact ml (by omega) (by omega)
  | exact mr (by omega) (by omega)
  | exact dv (by omega) (by omega)
  | exact Bd.mulOk (by with_reducible assumption) (by with_reducible assumption) (by decide) (by decide) (by decide)
  | exact Bd.div (by with_reducible assumption) (by omega) (by decide) (by decide)
  | (show (0 : Int) < _; omega)
  | exact ⟨by decide, by decide, by decide⟩
  | decide
  | exact rfl)
local macro_rules | `(tactic| walk_at "st") => `(tactic| first
  | with_reducible refine q_seq ?_
  | with_reducible refine q_end ?_
  | with_reducible refine q_nil ?_
  | with_reducible refine q_asg ?_
  | with_reducible refine q_asg2 ?_
  | with_reducible refine q_ret ?_
  | with_reducible refine q_if ?_
  | with_reducible refine q_expr ?_
  | with_reducible refine q_retN ?_
  | with_reducible refine q_sub ?_
  | with_reducible refine q_for ?_
  | with_reducible refine q_del ?_
  | with_reducible refine q_par ?_
  | with_reducible refine q_par3 ?_
  | with_reducible refine q_parV ?_
  | with_reducible refine q_parV3 ?_
  | with_reducible refine q_asgF ?_
  | with_reducible refine q_asgC ?_
  | ((with_reducible refine' q_frz ?ef ?_); (case ef => exact rfl))
  | ((with_reducible refine' q_app ?ea ?eb ?_); (case ea => exact rfl); (case eb => walk_at "slen"))
  | with_reducible refine q_brk ?_
  | with_reducible refine q_cnt ?_
  | with_reducible refine q_fldS ?_
  | with_reducible refine q_fldP ?_
  | with_reducible refine q_raise ?_
  | with_reducible refine q_try ?_)
local macro_rules | `(tactic| walk_at "slen") => `(tactic| first
  | with_reducible assumption
  | ((rw [sizeLine_eq]); (simp only [List.length_cons, List.length_nil, List.length_append, List.length_map]); omega))
local macro_rules | `(tactic| walk_at "sm") => `(tactic| first
  | with_reducible refine s_add ?_
  | with_reducible refine s_sub ?_
  | ((with_reducible refine' s_mul ?hm ?_); (case hm => walk_at "side"))
  | ((with_reducible refine' s_fdiv ?hm ?_); (case hm => walk_at "side"))
  | ((with_reducible refine' s_mod ?hm ?_); (case hm => walk_at "side"))
  | with_reducible refine s_neg ?_
  | ((with_reducible refine' s_pow ?hm ?_); (case hm => walk_at "side"))
  | ((with_reducible refine' s_ixL ?hl ?he ?_); (case hl => walk_at "ls"); (case he => exact rfl))
  | ((with_reducible refine' s_ixT ?he ?_); (case he => exact rfl))
  | ((with_reducible refine' set_L2 ?ha ?hb ?hc ?_); (case ha => with_reducible assumption); (case hb => exact rfl); (case hc => walk_at "set"))
  | with_reducible refine s_addB ?_
  | with_reducible refine s_lt ?_
  | with_reducible refine s_le ?_
  | with_reducible refine s_gt ?_
  | with_reducible refine s_ge ?_
  | with_reducible refine s_eq ?_
  | with_reducible refine s_ne ?_
  | ((with_reducible refine' s_neSame ?he ?_); (case he => with_reducible rfl))
  | ((with_reducible refine' s_eqSame ?he ?_); (case he => with_reducible rfl))
  | with_reducible refine s_eqS ?_
  | with_reducible refine s_neS ?_
  | with_reducible refine s_isN ?_
  | with_reducible refine s_isNotN ?_
  | with_reducible refine t_bl ?_)
local macro_rules | `(tactic| walk_at "cl") => `(tactic| first
  | with_reducible refine c_int ?_
  | with_reducible refine c_intB ?_
  | with_reducible refine c_abs ?_
  | ((with_reducible refine' c_max ?hm ?_); (case hm => exact rfl))
  | ((with_reducible refine' c_min ?hm ?_); (case hm => exact rfl))
  | ((with_reducible refine' c_divmod ?hm ?_); (case hm => walk_at "side"))
  | ((with_reducible refine' c_len ?hm ?_); (case hm => walk_at "sq"))
  | ((with_reducible refine' c_list ?hm ?_); (case hm => walk_at "sq"))
  | ((with_reducible refine' c_tuple ?hm ?_); (case hm => walk_at "sq")))
local macro_rules | `(tactic| walk_at "sq") => `(tactic| first
  | exact sqL
  | exact sqT
  | exact sqB
  | exact sqP (by with_reducible assumption))
local macro_rules | `(tactic| walk_at "v") => `(tactic| first
  | ((with_reducible refine' v_sh ?ev ?_); (case ev => exact rfl))
  | ((with_reducible refine' v_ol ?ev ?_); (case ev => exact rfl))
  | ((with_reducible refine' v_slf ?ev ?_); (case ev => exact rfl))
  | with_reducible refine q_val ?_
  | ((with_reducible refine' q_walk ?ew ?_); (case ew => exact rfl))
  | ((with_reducible refine' q_rng1 ?ej ?ek ?_); (case ej => walk_at "rg"); (case ek => walk_at "rg"))
  | ((with_reducible refine' q_rng2 ?ej ?_); (case ej => walk_at "rg"))
  | with_reducible refine q_rngL ?_
  | with_reducible refine q_solc ?_
  | with_reducible refine q_sol0 ?_
  | ((with_reducible refine' q_gname ?eg ?_); (case eg => walk_at "set"))
  | ((with_reducible refine' n_set ?eg ?_); (case eg => walk_at "set"))
  | ((with_reducible refine' n_set2 ?eg ?_); (case eg => walk_at "set"))
  | ((with_reducible refine' n_set3 ?eg ?_); (case eg => walk_at "set"))
  | with_reducible refine q_two ?_
  | with_reducible refine q_three ?_
  | with_reducible refine q_vv ?_
  | with_reducible refine q_isS ?_
  | with_reducible refine q_isL ?_
  | with_reducible refine q_twoV ?_
  | with_reducible refine q_threeV ?_
  | with_reducible refine q_bl ?_
  | with_reducible refine q_oint ?_
  | ((with_reducible refine' q_gtup ?el ?_); (case el => exact rfl))
  | with_reducible refine q_gcons ?_
  | with_reducible refine q_gnil ?_
  | with_reducible refine i_t ?_
  | with_reducible refine i_f ?_
  | with_reducible refine i_nt ?_
  | with_reducible refine i_nf ?_
  | ((with_reducible refine' n_t ?en ?_); (case en => exact rfl))
  | ((with_reducible refine' n_f ?en ?_); (case en => exact rfl))
  | ((with_reducible refine' nn_t ?en ?_); (case en => exact rfl))
  | ((with_reducible refine' nn_f ?en ?_); (case en => exact rfl))
  | with_reducible refine And.intro (by walk_at "sz") ?_)
local macro_rules | `(tactic| walk_at "d") => `(tactic| first
  | walk_at "v"
  | walk_at "st"
  | walk_at "sm"
  | walk_at "cl"
  | walk_at "at")
local macro_rules | `(tactic| walk_at "dd") => `(tactic| repeat walk_at "d")
local macro_rules | `(tactic| walk_at "tx") => `(tactic| simp only [l_dash, l_dot, l_nil, l_space, l_figs, l_signs])

variable {P : Program} {w : World} {K : PySem.W.Frag} {mg : Str → Option Value} {base : Heap} {S : Sto} {Ex : XS} {Q : QO}

theorem bn_law_caught (T : Tx K mg) : Binds K (Classical.choose T.d_law_caught) ["_law_act"] [] := (Classical.choose_spec T.d_law_caught).bindsN (fun _ _ _ _ _ _ us hl => match us, hl with | [_], _ => rfl)
theorem bn_law_error (T : Tx K mg) : Binds K (Classical.choose T.d_law_error) ["_law_e"] [] := (Classical.choose_spec T.d_law_error).bindsN (fun _ _ _ _ _ _ us hl => match us, hl with | [_], _ => rfl)
/-- the errors of the program here: class and field -/
inductive EC : Str → Str → Prop
  | KnownRow : EC "KnownRow" "key"
  | SameRank : EC "SameRank" "rank"
  | UnknownRow : EC "UnknownRow" "key"
abbrev errS (C : Str) (x : Str) : D := .tup [.str C, .str x]
abbrev toldS (x : Str) : D := .tup [.str "told", .str x]
/-- the body of _law_caught, read -/
def caughtR (T : Tx K mg) {k : Nat} : { t : Act (bs P w K mg base) k → RS // ∀ A : Act (bs P w K mg base) k, DSs (fnCfA (bs P w K mg base) (k + 1) ["_law_act", "_law_told", "_law_e"] (defScope s_law_caught) A.axm) (defBody s_law_caught) (t A) } := ⟨_, fun A => (dss_cons (ds_try rfl rfl (dss_one (dst 1 (de_act (i := 0) A rfl (.inl rfl)))) (.cons (.three rfl T.g_InputError rfl rfl T.g_LimitError rfl rfl T.g_StateError rfl) (.yes (i := 2) rfl rfl) (dss_one (ds_ret (de_callX (k := 0) (i := 2) (Nat.le_of_ble_eq_true rfl) rfl (by first | exact .inl rfl | exact .inr (.inl rfl) | exact .inr (.inr rfl)) rfl T.g_law_error (Classical.choose_spec T.d_law_error) (bn_law_error T) sc_law_error (dss_cons (dstF 1 (df_lst da_nil)) (dss_cons (ds_if (dt_val (de_xi (i := 0) rfl T.f_isinstance rfl (by first | exact .inl rfl | exact .inr (.inl rfl) | exact .inr (.inr rfl)) rfl T.g_KnownRow)) (dss_one (ds_app (i := 1) rfl (.inl rfl) (de_tup (da_cons de_str (da_cons (de_callB (id := "repr") rfl T.f_repr (by decide +kernel) (da_cons (de_xf (i := 0) rfl (by first | exact .inl rfl | exact .inr (.inl rfl) | exact .inr (.inr rfl))) da_nil)) da_nil))))) dss_nil) (dss_cons (ds_if (dt_val (de_xi (i := 0) rfl T.f_isinstance rfl (by first | exact .inl rfl | exact .inr (.inl rfl) | exact .inr (.inr rfl)) rfl T.g_SameRank)) (dss_one (ds_app (i := 1) rfl (.inl rfl) (de_tup (da_cons de_str (da_cons (de_callB (id := "repr") rfl T.f_repr (by decide +kernel) (da_cons (de_xf (i := 0) rfl (by first | exact .inl rfl | exact .inr (.inl rfl) | exact .inr (.inr rfl))) da_nil)) da_nil))))) dss_nil) (dss_cons (ds_if (dt_val (de_xi (i := 0) rfl T.f_isinstance rfl (by first | exact .inl rfl | exact .inr (.inl rfl) | exact .inr (.inr rfl)) rfl T.g_UnknownRow)) (dss_one (ds_app (i := 1) rfl (.inl rfl) (de_tup (da_cons de_str (da_cons (de_callB (id := "repr") rfl T.f_repr (by decide +kernel) (da_cons (de_xf (i := 0) rfl (by first | exact .inl rfl | exact .inr (.inl rfl) | exact .inr (.inr rfl))) da_nil)) da_nil))))) dss_nil) (dss_frz 1 (dss_one (ds_ret (de_if (dt_cmp (de_callB (id := "len") rfl T.f_len (by decide +kernel) (da_cons (dv 1) da_nil)) de_int) (de_ix (dv 1) de_int (fun _ _ => rfl)) (de_tup (da_cons de_str (da_cons de_str da_nil)))))))))))))) DHs.nil)) (dss_one (ds_ret (de_tup (da_cons de_str (da_cons (de_callB (id := "repr") rfl T.f_repr (by decide +kernel) (da_cons (dv 1) da_nil)) da_nil))))))⟩
theorem ok_caught (T : Tx K mg) {k : Nat} {A : Act (bs P w K mg base) k} {R : D → Sto → Prop} {D0 : DEnds} (hD : D0.rt = fun d _ S' => R d S')
    (h : ∀ (Ex : XS) (Q : QO), (∀ C f d S', EC C f → Yd d → R (errS C (shY d)) S' → Ex C [(f, d)] S') → (∀ d S', Yd d → R (toldS (shY d)) S' → Q (.v d) S') → A.t S Ex Q) :
    (caughtR (k := k) T).1 A D0 (startS 3 [.adr A.f]) S := by
  unfold caughtR
  rw [show startS 3 [.adr A.f] = [.sh (.adr A.f), .un, .un] from rfl]
  walk_at "dd"
  refine ⟨rfl, h _ _ (fun C f d S' ec hy r => ?_) fun d S' hy r => ?_⟩
  · cases ec with
    | KnownRow =>
      refine ⟨true, ⟨T.xa_KnownRow, rfl⟩, fun _ => ?_, fun z => (nomatch z)⟩
      walk_at "dd"
      refine ⟨_, _, rfl, ?_⟩
      simp only [List.length_cons, List.length_nil, Nat.reduceAdd, Nat.reduceSub, List.replicate_succ, List.replicate_zero]
      walk_at "dd"
      refine ⟨_, _, _, true, rfl, by simp, T.er_KnownRow, T.i_XKnownRowKnownRow, ?_⟩
      walk_at "dd"
      refine ⟨_, _, _, rfl, T.er_KnownRow.xf, T.no_KnownRow, rfl, ?_⟩
      walk_at "dd"
      refine c_reprY hy ?_
      walk_at "dd"
      refine ⟨_, _, _, false, rfl, by simp, T.er_KnownRow, T.i_XKnownRowSameRank, ?_⟩
      walk_at "dd"
      refine ⟨_, _, _, false, rfl, by simp, T.er_KnownRow, T.i_XKnownRowUnknownRow, ?_⟩
      walk_at "dd"
      refine i_pos (by rfl) ?_
      walk_at "dd"
      rw [hD]
      exact r
    | SameRank =>
      refine ⟨true, ⟨T.xa_SameRank, rfl⟩, fun _ => ?_, fun z => (nomatch z)⟩
      walk_at "dd"
      refine ⟨_, _, rfl, ?_⟩
      simp only [List.length_cons, List.length_nil, Nat.reduceAdd, Nat.reduceSub, List.replicate_succ, List.replicate_zero]
      walk_at "dd"
      refine ⟨_, _, _, false, rfl, by simp, T.er_SameRank, T.i_XSameRankKnownRow, ?_⟩
      walk_at "dd"
      refine ⟨_, _, _, true, rfl, by simp, T.er_SameRank, T.i_XSameRankSameRank, ?_⟩
      walk_at "dd"
      refine ⟨_, _, _, rfl, T.er_SameRank.xf, T.no_SameRank, rfl, ?_⟩
      walk_at "dd"
      refine c_reprY hy ?_
      walk_at "dd"
      refine ⟨_, _, _, false, rfl, by simp, T.er_SameRank, T.i_XSameRankUnknownRow, ?_⟩
      walk_at "dd"
      refine i_pos (by rfl) ?_
      walk_at "dd"
      rw [hD]
      exact r
    | UnknownRow =>
      refine ⟨true, ⟨T.xa_UnknownRow, rfl⟩, fun _ => ?_, fun z => (nomatch z)⟩
      walk_at "dd"
      refine ⟨_, _, rfl, ?_⟩
      simp only [List.length_cons, List.length_nil, Nat.reduceAdd, Nat.reduceSub, List.replicate_succ, List.replicate_zero]
      walk_at "dd"
      refine ⟨_, _, _, false, rfl, by simp, T.er_UnknownRow, T.i_XUnknownRowKnownRow, ?_⟩
      walk_at "dd"
      refine ⟨_, _, _, false, rfl, by simp, T.er_UnknownRow, T.i_XUnknownRowSameRank, ?_⟩
      walk_at "dd"
      refine ⟨_, _, _, true, rfl, by simp, T.er_UnknownRow, T.i_XUnknownRowUnknownRow, ?_⟩
      walk_at "dd"
      refine ⟨_, _, _, rfl, T.er_UnknownRow.xf, T.no_UnknownRow, rfl, ?_⟩
      walk_at "dd"
      refine c_reprY hy ?_
      walk_at "dd"
      refine i_pos (by rfl) ?_
      walk_at "dd"
      rw [hD]
      exact r
  · walk_at "dd"
    refine c_reprY hy ?_
    walk_at "dd"
    rw [hD]
    exact r
theorem ok_caughtP (T : Tx K mg) {k : Nat} {A : Act (bs P w K mg base) k} {R : D → Sto → Prop} {D0 : DEnds} (hD : D0.rt = fun d _ S' => R d S') (V : D → Sto → Prop) (key : ∀ d S', V d S' → R d S')
    (h : ∀ (Ex : XS) (Q : QO), (∀ C f d S', EC C f → Yd d → V (errS C (shY d)) S' → Ex C [(f, d)] S') → (∀ d S', Yd d → V (toldS (shY d)) S' → Q (.v d) S') → A.t S Ex Q) :
    (caughtR (k := k) T).1 A D0 (startS 3 [.adr A.f]) S := ok_caught T hD fun Ex Q hE hQ => h Ex Q (fun C f d S' a b c => hE C f d S' a b (key _ _ c)) fun d S' a b => hQ d S' a (key _ _ b)
end Toy

set_option Elab.async false
set_option linter.all false
set_option maxRecDepth 100000
set_option maxHeartbeats 1000000
namespace Toy
open PySem PySem.Spec PyProof.Rows L2 My Dt SX
local macro_rules | `(tactic| walk_at "rg") => `(tactic| first
  | omega
  | ((refine And.intro ?_ (And.intro ?_ (And.intro ?_ ?_))) <;> omega))
local macro_rules | `(tactic| walk_at "ls") => `(tactic| first
  | with_reducible exact ls_v
  | with_reducible exact ls_b
  | ((with_reducible refine' ls_p ?hlp); (case hlp => with_reducible assumption)))
local macro_rules | `(tactic| walk_at "start") => `(tactic| ((simp only [startM, startS, List.map_cons, List.map_nil, List.length_cons, List.length_nil, List.cons_append, List.nil_append, Nat.reduceAdd, Nat.reduceSub, List.replicate_succ, List.replicate_zero]); exact rfl))
local macro_rules | `(tactic| walk_at "set") => `(tactic| first
  | ((dsimp only [Int.reduceToNat, List.set_cons_zero, List.set_cons_succ, VO.sl]); done)
  | ((dsimp only [Int.reduceToNat, List.set_cons_zero, List.set_cons_succ, VO.sl]); exact rfl)
  | exact rfl)
local macro_rules | `(tactic| walk_at "sz") => `(tactic| first
  | exact sz_of (Nat.le_of_ble_eq_true rfl)
  | (apply sz_of; simp only [List.length_cons, List.length_nil, List.length_append, List.length_map]; omega))
local macro_rules | `(tactic| walk_at "side") => `(tactic| first
  | with_reducible assumption
  | omega
  | exact ml (by omega) (by omega)
  | exact mr (by omega) (by omega)
  | exact dv (by omega) (by omega)
  | exact Bd.mulOk (by with_reducible assumption) (by with_reducible assumption) (by decide) (by decide) (by decide)
  | exact Bd.div (by with_reducible assumption) (by omega) (by decide) (by decide)
  | (show (0 : Int) < _; omega)
  | exact ⟨by decide, by decide, by decide⟩
  | decide
  | exact rfl)
local macro_rules | `(tactic| walk_at "st") => `(tactic| first
  | with_reducible refine q_seq ?_
  | with_reducible refine q_end ?_
  | with_reducible refine q_nil ?_
  | with_reducible refine q_asg ?_
  | with_reducible refine q_asg2 ?_
  | with_reducible refine q_ret ?_
  | with_reducible refine q_if ?_
  | with_reducible refine q_expr ?_
  | with_reducible refine q_retN ?_
  | with_reducible refine q_sub ?_
  | with_reducible refine q_for ?_
  | with_reducible refine q_del ?_
  | with_reducible refine q_par ?_
  | with_reducible refine q_par3 ?_
  | with_reducible refine q_parV ?_
  | with_reducible refine q_parV3 ?_
  | with_reducible refine q_asgF ?_
  | with_reducible refine q_asgC ?_
  | ((with_reducible refine' q_frz ?ef ?_); (case ef => exact rfl))
  | ((with_reducible refine' q_app ?ea ?eb ?_); (case ea => exact rfl); (case eb => walk_at "slen"))
  | with_reducible refine q_brk ?_
  | with_reducible refine q_cnt ?_
  | with_reducible refine q_fldS ?_
  | with_reducible refine q_fldP ?_
  | with_reducible refine q_raise ?_
  | with_reducible refine q_try ?_)
local macro_rules | `(tactic| walk_at "slen") => `(tactic| first
  | with_reducible assumption
  | ((rw [sizeLine_eq]); (simp only [List.length_cons, List.length_nil, List.length_append, List.length_map]); omega))
local macro_rules | `(tactic| walk_at "sm") => `(tactic| first
  | with_reducible refine s_add ?_
  | with_reducible refine s_sub ?_
  | ((with_reducible refine' s_mul ?hm ?_); (case hm => walk_at "side"))
  | ((with_reducible refine' s_fdiv ?hm ?_); (case hm => walk_at "side"))
  | ((with_reducible refine' s_mod ?hm ?_); (case hm => walk_at "side"))
  | with_reducible refine s_neg ?_
  | ((with_reducible refine' s_pow ?hm ?_); (case hm => walk_at "side"))
  | ((with_reducible refine' s_ixL ?hl ?he ?_); (case hl => walk_at "ls"); (case he => exact rfl))
  | ((with_reducible refine' s_ixT ?he ?_); (case he => exact rfl))
  | ((with_reducible refine' set_L2 ?ha ?hb ?hc ?_); (case ha => with_reducible assumption); (case hb => exact rfl); (case hc => walk_at "set"))
  | with_reducible refine s_addB ?_
  | with_reducible refine s_lt ?_
  | with_reducible refine s_le ?_
  | with_reducible refine s_gt ?_
  | with_reducible refine s_ge ?_
  | with_reducible refine s_eq ?_
  | with_reducible refine s_ne ?_
  | ((with_reducible refine' s_neSame ?he ?_); (case he => with_reducible rfl))
  | ((with_reducible refine' s_eqSame ?he ?_); (case he => with_reducible rfl))
  | with_reducible refine s_eqS ?_
  | with_reducible refine s_neS ?_
  | with_reducible refine s_isN ?_
  | with_reducible refine s_isNotN ?_
  | with_reducible refine t_bl ?_)
local macro_rules | `(tactic| walk_at "cl") => `(tactic| first
  | with_reducible refine c_int ?_
  | with_reducible refine c_intB ?_
  | with_reducible refine c_abs ?_
  | ((with_reducible refine' c_max ?hm ?_); (case hm => exact rfl))
  | ((with_reducible refine' c_min ?hm ?_); (case hm => exact rfl))
  | ((with_reducible refine' c_divmod ?hm ?_); (case hm => walk_at "side"))
  | ((with_reducible refine' c_len ?hm ?_); (case hm => walk_at "sq"))
  | ((with_reducible refine' c_list ?hm ?_); (case hm => walk_at "sq"))
  | ((with_reducible refine' c_tuple ?hm ?_); (case hm => walk_at "sq")))
local macro_rules | `(tactic| walk_at "sq") => `(tactic| first
  | exact sqL
  | exact sqT
  | exact sqB
  | exact sqP (by with_reducible assumption))
local macro_rules | `(tactic| walk_at "v") => `(tactic| first
  | ((with_reducible refine' v_sh ?ev ?_); (case ev => exact rfl))
  | ((with_reducible refine' v_ol ?ev ?_); (case ev => exact rfl))
  | ((with_reducible refine' v_slf ?ev ?_); (case ev => exact rfl))
  | with_reducible refine q_val ?_
  | ((with_reducible refine' q_walk ?ew ?_); (case ew => exact rfl))
  | ((with_reducible refine' q_rng1 ?ej ?ek ?_); (case ej => walk_at "rg"); (case ek => walk_at "rg"))
  | ((with_reducible refine' q_rng2 ?ej ?_); (case ej => walk_at "rg"))
  | with_reducible refine q_rngL ?_
  | with_reducible refine q_solc ?_
  | with_reducible refine q_sol0 ?_
  | ((with_reducible refine' q_gname ?eg ?_); (case eg => walk_at "set"))
  | ((with_reducible refine' n_set ?eg ?_); (case eg => walk_at "set"))
  | ((with_reducible refine' n_set2 ?eg ?_); (case eg => walk_at "set"))
  | ((with_reducible refine' n_set3 ?eg ?_); (case eg => walk_at "set"))
  | with_reducible refine q_two ?_
  | with_reducible refine q_three ?_
  | with_reducible refine q_vv ?_
  | with_reducible refine q_isS ?_
  | with_reducible refine q_isL ?_
  | with_reducible refine q_twoV ?_
  | with_reducible refine q_threeV ?_
  | with_reducible refine q_bl ?_
  | with_reducible refine q_oint ?_
  | ((with_reducible refine' q_gtup ?el ?_); (case el => exact rfl))
  | with_reducible refine q_gcons ?_
  | with_reducible refine q_gnil ?_
  | with_reducible refine i_t ?_
  | with_reducible refine i_f ?_
  | with_reducible refine i_nt ?_
  | with_reducible refine i_nf ?_
  | ((with_reducible refine' n_t ?en ?_); (case en => exact rfl))
  | ((with_reducible refine' n_f ?en ?_); (case en => exact rfl))
  | ((with_reducible refine' nn_t ?en ?_); (case en => exact rfl))
  | ((with_reducible refine' nn_f ?en ?_); (case en => exact rfl))
  | with_reducible refine And.intro (by walk_at "sz") ?_)
local macro_rules | `(tactic| walk_at "d") => `(tactic| first
  | walk_at "v"
  | walk_at "st"
  | walk_at "sm"
  | walk_at "cl"
  | walk_at "at")
local macro_rules | `(tactic| walk_at "dd") => `(tactic| repeat walk_at "d")
local macro_rules | `(tactic| walk_at "tx") => `(tactic| simp only [l_dash, l_dot, l_nil, l_space, l_figs, l_signs])

variable {P : Program} {w : World} {K : PySem.W.Frag} {mg : Str → Option Value} {base : Heap} {S : Sto} {Ex : XS} {Q : QO}

/-- a value that can be shown -/
structure Gv (d : D) : Prop where
  sm : smp d = true
  y : Yd d
  a : Asc (shY d)
theorem shY_p {d : D} {p : PyData} (h : pd d = some p) : shY d = p.shown := by
  unfold shY
  rw [h]
theorem gv_p {d : D} {p : PyData} (h : pd d = some p) (s : smp d = true) (f : Fine 20 1000 60 p) (a : ascP p = true) : Gv d :=
  ⟨s, .inl ⟨p, h, f.nd, f.shw, Nat.le_trans f.dep (by decide), f.fits (by decide) (by decide)⟩, by rw [shY_p h]; exact asc_shown a⟩
theorem fp_big {n w : Nat} {i : Int} (h1 : -(10 ^ 40) < i) (h2 : i < 10 ^ 40) (hw : 140 ≤ w) : Fine n w 60 (.int i) :=
  fp_int (k := 140) (Nat.lt_of_lt_of_le (show i.natAbs < 10 ^ 40 by omega) (by decide)) (by decide) hw (by decide) (by
    show (Str.ofString (toString i)).length ≤ 60
    have := intL_len (k := 40) (i := i) (by decide) h1 h2
    rw [txt_int, S_len]
    omega)
theorem gv_int {i : Int} (h1 : -(10 ^ 40) < i) (h2 : i < 10 ^ 40) : Gv (.int i) := gv_p rfl rfl (fp_big h1 h2 (by decide)) rfl
theorem gv_non : Gv .non := gv_p rfl rfl fp_none rfl
theorem gv_bl (b : Bool) : Gv (.bl b) := gv_p rfl rfl fp_bool rfl
theorem shY_non : shY .non = "None" := (shY_p (p := .none) rfl).trans rfl
theorem at_lit {xs : List D} {v : Int} (v0 : 0 ≤ v) (v1 : v < xs.length) : ∃ d, L2.atI xs v = some d ∧ d ∈ xs := by
  obtain ⟨n, rfl⟩ := Int.eq_ofNat_of_zero_le v0
  have hn : n < xs.length := by omega
  exact ⟨xs[n], L2.atI_nat (List.getElem?_eq_getElem hn), List.getElem_mem hn⟩
end Toy

set_option Elab.async false
set_option linter.all false
set_option maxRecDepth 100000
set_option maxHeartbeats 1000000
namespace Toy
open PySem PySem.Spec PyProof.Rows L2 My Dt SX
local macro_rules | `(tactic| walk_at "rg") => `(tactic| first
  | omega
  | ((refine And.intro ?_ (And.intro ?_ (And.intro ?_ ?_))) <;> omega))
local macro_rules | `(tactic| walk_at "ls") => `(tactic| first
  | with_reducible exact ls_v
  | with_reducible exact ls_b
  | ((with_reducible refine' ls_p ?hlp); (case hlp => with_reducible assumption)))
local macro_rules | `(tactic| walk_at "start") => `(tactic| ((simp only [startM, startS, List.map_cons, List.map_nil, List.length_cons, List.length_nil, List.cons_append, List.nil_append, Nat.reduceAdd, Nat.reduceSub, List.replicate_succ, List.replicate_zero]); exact rfl))
local macro_rules | `(tactic| walk_at "set") => `(tactic| first
  | ((dsimp only [Int.reduceToNat, List.set_cons_zero, List.set_cons_succ, VO.sl]); done)
  | ((dsimp only [Int.reduceToNat, List.set_cons_zero, List.set_cons_succ, VO.sl]); exact rfl)
  | exact rfl)
local macro_rules | `(tactic| walk_at "sz") => `(tactic| first
  | exact sz_of (Nat.le_of_ble_eq_true rfl)
  | (apply sz_of; simp only [List.length_cons, List.length_nil, List.length_append, List.length_map]; omega))
local macro_rules | `(tactic| walk_at "side") => `(tactic| first
  | with_reducible assumption
  | omega
  | exact ml (by omega) (by omega)
  | exact mr (by omega) (by omega)
  | exact dv (by omega) (by omega)
  | exact Bd.mulOk (by with_reducible assumption) (by with_reducible assumption) (by decide) (by decide) (by decide)
  | exact Bd.div (by with_reducible assumption) (by omega) (by decide) (by decide)
  | (show (0 : Int) < _; omega)
  | exact ⟨by decide, by decide, by decide⟩
  | decide
  | exact rfl)
local macro_rules | `(tactic| walk_at "st") => `(tactic| first
  | with_reducible refine q_seq ?_
  | with_reducible refine q_end ?_
  | with_reducible refine q_nil ?_
  | with_reducible refine q_asg ?_
  | with_reducible refine q_asg2 ?_
  | with_reducible refine q_ret ?_
  | with_reducible refine q_if ?_
  | with_reducible refine q_expr ?_
  | with_reducible refine q_retN ?_
  | with_reducible refine q_sub ?_
  | with_reducible refine q_for ?_
  | with_reducible refine q_del ?_
  | with_reducible refine q_par ?_
  | with_reducible refine q_par3 ?_
  | with_reducible refine q_parV ?_
  | with_reducible refine q_parV3 ?_
  | with_reducible refine q_asgF ?_
  | with_reducible refine q_asgC ?_
  | ((with_reducible refine' q_frz ?ef ?_); (case ef => exact rfl))
  | ((with_reducible refine' q_app ?ea ?eb ?_); (case ea => exact rfl); (case eb => walk_at "slen"))
  | with_reducible refine q_brk ?_
  | with_reducible refine q_cnt ?_
  | with_reducible refine q_fldS ?_
  | with_reducible refine q_fldP ?_
  | with_reducible refine q_raise ?_
  | with_reducible refine q_try ?_)
local macro_rules | `(tactic| walk_at "slen") => `(tactic| first
  | with_reducible assumption
  | ((rw [sizeLine_eq]); (simp only [List.length_cons, List.length_nil, List.length_append, List.length_map]); omega))
local macro_rules | `(tactic| walk_at "sm") => `(tactic| first
  | with_reducible refine s_add ?_
  | with_reducible refine s_sub ?_
  | ((with_reducible refine' s_mul ?hm ?_); (case hm => walk_at "side"))
  | ((with_reducible refine' s_fdiv ?hm ?_); (case hm => walk_at "side"))
  | ((with_reducible refine' s_mod ?hm ?_); (case hm => walk_at "side"))
  | with_reducible refine s_neg ?_
  | ((with_reducible refine' s_pow ?hm ?_); (case hm => walk_at "side"))
  | ((with_reducible refine' s_ixL ?hl ?he ?_); (case hl => walk_at "ls"); (case he => exact rfl))
  | ((with_reducible refine' s_ixT ?he ?_); (case he => exact rfl))
  | ((with_reducible refine' set_L2 ?ha ?hb ?hc ?_); (case ha => with_reducible assumption); (case hb => exact rfl); (case hc => walk_at "set"))
  | with_reducible refine s_addB ?_
  | with_reducible refine s_lt ?_
  | with_reducible refine s_le ?_
  | with_reducible refine s_gt ?_
  | with_reducible refine s_ge ?_
  | with_reducible refine s_eq ?_
  | with_reducible refine s_ne ?_
  | ((with_reducible refine' s_neSame ?he ?_); (case he => with_reducible rfl))
  | ((with_reducible refine' s_eqSame ?he ?_); (case he => with_reducible rfl))
  | with_reducible refine s_eqS ?_
  | with_reducible refine s_neS ?_
  | with_reducible refine s_isN ?_
  | with_reducible refine s_isNotN ?_
  | with_reducible refine t_bl ?_)
local macro_rules | `(tactic| walk_at "cl") => `(tactic| first
  | with_reducible refine c_int ?_
  | with_reducible refine c_intB ?_
  | with_reducible refine c_abs ?_
  | ((with_reducible refine' c_max ?hm ?_); (case hm => exact rfl))
  | ((with_reducible refine' c_min ?hm ?_); (case hm => exact rfl))
  | ((with_reducible refine' c_divmod ?hm ?_); (case hm => walk_at "side"))
  | ((with_reducible refine' c_len ?hm ?_); (case hm => walk_at "sq"))
  | ((with_reducible refine' c_list ?hm ?_); (case hm => walk_at "sq"))
  | ((with_reducible refine' c_tuple ?hm ?_); (case hm => walk_at "sq")))
local macro_rules | `(tactic| walk_at "sq") => `(tactic| first
  | exact sqL
  | exact sqT
  | exact sqB
  | exact sqP (by with_reducible assumption))
local macro_rules | `(tactic| walk_at "v") => `(tactic| first
  | ((with_reducible refine' v_sh ?ev ?_); (case ev => exact rfl))
  | ((with_reducible refine' v_ol ?ev ?_); (case ev => exact rfl))
  | ((with_reducible refine' v_slf ?ev ?_); (case ev => exact rfl))
  | with_reducible refine q_val ?_
  | ((with_reducible refine' q_walk ?ew ?_); (case ew => exact rfl))
  | ((with_reducible refine' q_rng1 ?ej ?ek ?_); (case ej => walk_at "rg"); (case ek => walk_at "rg"))
  | ((with_reducible refine' q_rng2 ?ej ?_); (case ej => walk_at "rg"))
  | with_reducible refine q_rngL ?_
  | with_reducible refine q_solc ?_
  | with_reducible refine q_sol0 ?_
  | ((with_reducible refine' q_gname ?eg ?_); (case eg => walk_at "set"))
  | ((with_reducible refine' n_set ?eg ?_); (case eg => walk_at "set"))
  | ((with_reducible refine' n_set2 ?eg ?_); (case eg => walk_at "set"))
  | ((with_reducible refine' n_set3 ?eg ?_); (case eg => walk_at "set"))
  | with_reducible refine q_two ?_
  | with_reducible refine q_three ?_
  | with_reducible refine q_vv ?_
  | with_reducible refine q_isS ?_
  | with_reducible refine q_isL ?_
  | with_reducible refine q_twoV ?_
  | with_reducible refine q_threeV ?_
  | with_reducible refine q_bl ?_
  | with_reducible refine q_oint ?_
  | ((with_reducible refine' q_gtup ?el ?_); (case el => exact rfl))
  | with_reducible refine q_gcons ?_
  | with_reducible refine q_gnil ?_
  | with_reducible refine i_t ?_
  | with_reducible refine i_f ?_
  | with_reducible refine i_nt ?_
  | with_reducible refine i_nf ?_
  | ((with_reducible refine' n_t ?en ?_); (case en => exact rfl))
  | ((with_reducible refine' n_f ?en ?_); (case en => exact rfl))
  | ((with_reducible refine' nn_t ?en ?_); (case en => exact rfl))
  | ((with_reducible refine' nn_f ?en ?_); (case en => exact rfl))
  | with_reducible refine And.intro (by walk_at "sz") ?_)
local macro_rules | `(tactic| walk_at "d") => `(tactic| first
  | walk_at "v"
  | walk_at "st"
  | walk_at "sm"
  | walk_at "cl"
  | walk_at "at")
local macro_rules | `(tactic| walk_at "dd") => `(tactic| repeat walk_at "d")
local macro_rules | `(tactic| walk_at "tx") => `(tactic| simp only [l_dash, l_dot, l_nil, l_space, l_figs, l_signs])

variable {P : Program} {w : World} {K : PySem.W.Frag} {mg : Str → Option Value} {base : Heap} {S : Sto} {Ex : XS} {Q : QO}

/-- all of the old cells but one stay -/
structure Ext (n : Nat) (S S' : Sto) : Prop where
  at_ : ∀ i, i ≠ n → i < S.length → S'[i]? = S[i]?
  len : S.length ≤ S'.length
theorem Ext.refl {n : Nat} {S : Sto} : Ext n S S := ⟨fun _ _ _ => rfl, Nat.le_refl _⟩
theorem Ext.trans {n : Nat} {S S1 S2 : Sto} (a : Ext n S S1) (b : Ext n S1 S2) : Ext n S S2 := ⟨fun i h k => (b.at_ i h (Nat.lt_of_lt_of_le k a.len)).trans (a.at_ i h k), Nat.le_trans a.len b.len⟩
theorem Ext.bt {n : Nat} {S S' : Sto} (a : Bt n S S') : Ext n S S' := ⟨fun i h _ => a.at_ i h, Nat.le_of_eq a.len.symm⟩
theorem Ext.app {n : Nat} {S c : Sto} : Ext n S (S ++ c) := ⟨fun i _ k => List.getElem?_append_left k, by rw [List.length_append]; omega⟩
theorem Ext.set {n i : Nat} {S S1 : Sto} {c : Cell} (a : Ext n S S1) (h : S.length ≤ i) : Ext n S (S1.set i c) := ⟨fun j hj k => by rw [List.getElem?_set_ne (by omega)]; exact a.at_ j hj k, by rw [List.length_set]; exact a.len⟩
theorem Ext.get {n i : Nat} {S S' : Sto} {c : Cell} (a : Ext n S S') (h : S[i]? = some c) (hi : i ≠ n) : S'[i]? = some c := (a.at_ i hi (List.getElem?_eq_some_iff.mp h).1).trans h
theorem Ext.bt2 {n j m : Nat} {S S1 S2 : Sto} (a : Ext n S S1) (b : Bt2 j m S1 S2) (hj : S.length ≤ j) (hm : S.length ≤ m) : Ext n S S2 := ⟨fun i h k => (b.at_ i (by omega) (by omega)).trans (a.at_ i h k), by rw [b.len]; exact a.len⟩
theorem Strm.app {S c : Sto} {n : Nat} (h : Strm S n) : Strm (S ++ c) n := by
  obtain ⟨x, y, z, e, r⟩ := h
  exact ⟨x, y, z, by rw [List.getElem?_append_left (List.getElem?_eq_some_iff.mp e).1]; exact e, r⟩
theorem Strm.set {S : Sto} {n i : Nat} {c : Cell} (h : Strm S n) (hi : i ≠ n) : Strm (S.set i c) n := by
  obtain ⟨x, y, z, e, r⟩ := h
  exact ⟨x, y, z, by rw [List.getElem?_set_ne hi]; exact e, r⟩
theorem Strm.lt {S : Sto} {n : Nat} (h : Strm S n) : n < S.length := by
  obtain ⟨x, y, z, e, r⟩ := h
  exact (List.getElem?_eq_some_iff.mp e).1
theorem Strm.bt2 {n j m : Nat} {S1 S2 : Sto} (h : Strm S1 n) (b : Bt2 j m S1 S2) (hj : j ≠ n) (hm : m ≠ n) : Strm S2 n := by
  obtain ⟨x, y, z, e, r⟩ := h
  exact ⟨x, y, z, (b.at_ _ (Ne.symm hj) (Ne.symm hm)).trans e, r⟩
theorem HasT.app {S c : Sto} {j m : Nat} {t : Tab} (h : HasT S j m t) : HasT (S ++ c) j m t :=
  ⟨by rw [List.getElem?_append_left (List.getElem?_eq_some_iff.mp h.o).1]; exact h.o, by rw [List.getElem?_append_left (List.getElem?_eq_some_iff.mp h.d).1]; exact h.d⟩
theorem HasT.ext {n : Nat} {S S' : Sto} {j m : Nat} {t : Tab} (h : HasT S j m t) (x : Ext n S S') (hj : j ≠ n) (hm : m ≠ n) : HasT S' j m t := ⟨x.get h.o hj, x.get h.d hm⟩
theorem Bt2.ext {j m : Nat} {S S' : Sto} (b : Bt2 j m S S') {i : Nat} {c : Cell} (h : S[i]? = some c) (hj : i ≠ j) (hm : i ≠ m) : S'[i]? = some c := (b.at_ i hj hm).trans h
abbrev lamQ (x : Str) : Str := x ++ ".<locals>." ++ "<lambda>"
/-- a pair of texts -/
abbrev Two (d : D) : Prop := ∃ x y, d = .tup [.str x, .str y] ∧ Asc x ∧ Asc y
theorem shp_two {x y : Str} (ax : Asc x) (ay : Asc y) : SeqAt.shaped (.tuple [.str x, .str y]) = true := by
  unfold SeqAt.shaped
  rw [show PyData.canLay0 (.tuple [.str x, .str y]) = (PyData.strOk x && (PyData.strOk y && true)) from rfl, ax.ok, ay.ok] <;> rfl
theorem eqv_two {x y : Str} : PyData.eqv (.tuple [.str x, .str y]) (.tuple [.str x, .str y]) = true := by
  show ((x == x) && ((y == y) && true)) = true
  simp
/-- two texts beside one another, compared with themselves -/
theorem eq_two {S : Sto} {Q : QO} {Ex : XS} {B : Bs} {k : Nat} {d : D} (h : Two d) (q : Q (.v (.bl true)) S) : sem2 B k (compareOp .Eq) (.v d) (.v d) S Ex Q := by
  obtain ⟨x, y, rfl, ax, ay⟩ := h
  refine s_eqD (e := .tuple [.str x, .str y]) (f := .tuple [.str x, .str y]) (pdV rfl) (pdV rfl) (shp_two ax ay) (shp_two ax ay) ?_
  rw [eqv_two]
  exact q
theorem ne_two {S : Sto} {Q : QO} {Ex : XS} {B : Bs} {k : Nat} {d : D} (h : Two d) (q : Q (.v (.bl false)) S) : sem2 B k (compareOp .NotEq) (.v d) (.v d) S Ex Q := by
  obtain ⟨x, y, rfl, ax, ay⟩ := h
  refine s_neD (e := .tuple [.str x, .str y]) (f := .tuple [.str x, .str y]) (pdV rfl) (pdV rfl) (shp_two ax ay) (shp_two ax ay) ?_
  rw [eqv_two]
  exact q
theorem two_err {C x : Str} (h : Asc C) (a : Asc x) : Two (errS C x) := ⟨_, _, rfl, h, a⟩
/-! rows -/
abbrev rowE (e : Ent) : D := .tup [.int e.1, .int e.2.1, .bl e.2.2.1]
abbrev rowsE (kvs : List Ent) : D := .lst (kvs.map rowE)
theorem getE_mem {kvs : List Ent} {i : Int} : (getE kvs i).isSome = decide (i ∈ kvs.map (·.1)) := by
  unfold getE
  induction kvs with
  | nil => rfl
  | cons e r ih =>
    rw [List.find?_cons]
    by_cases c : e.1 = i
    · rw [decide_eq_true c, decide_eq_true (by rw [List.map_cons, c]; exact .head _)] <;> rfl
    · rw [decide_eq_false c]
      refine ih.trans ?_
      rw [List.map_cons]
      refine decide_eq_decide.mpr ⟨fun z => .tail _ z, fun z => ?_⟩
      rcases List.mem_cons.mp z with y | y
      · exact absurd y.symm c
      · exact y
theorem getE_none {kvs : List Ent} {i : Int} : getE kvs i = none ↔ i ∉ kvs.map (·.1) := by
  have h := getE_mem (kvs := kvs) (i := i)
  constructor
  · intro e z
    rw [e, decide_eq_true z] at h
    cases h
  · intro z
    rw [decide_eq_false z] at h
    cases c : getE kvs i with
    | none => rfl
    | some e => rw [c] at h; cases h
theorem hasRank_mem {kvs : List Ent} {r : Int} : hasRank kvs r = decide (r ∈ kvs.map (·.2.1)) := by
  unfold hasRank
  cases c : kvs.any fun e => decide (e.2.1 = r) with
  | true =>
    obtain ⟨e, he, z⟩ := List.any_eq_true.mp c
    exact (decide_eq_true (List.mem_map.mpr ⟨e, he, of_decide_eq_true z⟩)).symm
  | false =>
    refine (decide_eq_false fun z => ?_).symm
    obtain ⟨e, he, z⟩ := List.mem_map.mp z
    have := List.any_eq_false.mp c e he
    exact this (decide_eq_true z)
/-! the order -/
theorem owners_distinct {kvs : List Ent} (h : (kvs.map (·.2.1)).Nodup) : ownersD kvs = kvs.map fun e => ((.inl e.2.1 : Key), D.int e.1) := by
  unfold ownersD
  have key : ∀ (kvs : List Ent) (acc : List Ent), ((acc ++ kvs).map (·.2.1)).Nodup → (kvs.map itmD).foldl (fun a x => putKD a (kfO x) (vfO x)) (acc.map fun e => ((.inl e.2.1 : Key), D.int e.1)) = (acc ++ kvs).map fun e => ((.inl e.2.1 : Key), D.int e.1) := by
    intro kvs
    induction kvs with
    | nil => intro acc _; rw [List.append_nil] <;> rfl
    | cons e r ih =>
      intro acc nd
      rw [List.map_cons, List.foldl_cons]
      have e1 : putKD (acc.map fun e => ((.inl e.2.1 : Key), D.int e.1)) (kfO (itmD e)) (vfO (itmD e)) = (acc ++ [e]).map fun e => ((.inl e.2.1 : Key), D.int e.1) := by
        unfold putKD
        rw [if_neg]
        · rw [List.map_append] <;> rfl
        · intro z
          obtain ⟨p, hp, hz⟩ := List.any_eq_true.mp z
          obtain ⟨f, hf, rfl⟩ := List.mem_map.mp hp
          have hz2 : (Sum.inl f.2.1 : Key) = .inl e.2.1 := of_decide_eq_true hz
          have hz3 := inl_iff.mp hz2
          rw [List.map_append, List.map_cons] at nd
          exact (List.nodup_append.mp nd).2.2 _ (List.mem_map.mpr ⟨f, hf, hz3⟩) _ (.head _) rfl
      rw [e1, ih (acc ++ [e]) (by rw [List.append_assoc]; exact nd), List.append_assoc] <;> rfl
  exact key kvs [] (by rw [List.nil_append]; exact h)
theorem ranks_distinct {kvs : List Ent} (h : (kvs.map (·.2.1)).Nodup) : ranksD kvs = kvs.map (·.2.1) := by
  unfold ranksD
  rw [owners_distinct h, List.map_map]
  rfl
theorem own_distinct {kvs : List Ent} (h : (kvs.map (·.2.1)).Nodup) {e : Ent} (he : e ∈ kvs) : ownD kvs e.2.1 = .int e.1 := by
  unfold ownD
  rw [owners_distinct h]
  have key : ∀ (kvs : List Ent), (kvs.map (·.2.1)).Nodup → e ∈ kvs → valD (kvs.map fun e => ((.inl e.2.1 : Key), D.int e.1)) (.inl e.2.1) = some (D.int e.1) := by
    intro kvs
    induction kvs with
    | nil => intro _ z; cases z
    | cons f r ih =>
      intro nd z
      unfold valD
      rw [List.map_cons, List.find?_cons]
      rw [List.map_cons] at nd
      have nd := List.nodup_cons.mp nd
      rcases List.mem_cons.mp z with y | y
      · subst y
        rw [decide_eq_true rfl] <;> rfl
      · have ne : ¬ ((Sum.inl f.2.1 : Key) = .inl e.2.1) := fun w => nd.1 (by rw [inl_iff.mp w]; exact List.mem_map.mpr ⟨e, y, rfl⟩)
        rw [decide_eq_false ne]
        exact ih nd.2 y
  rw [key kvs h he] <;> rfl
theorem sort_uniq {xs ys : List Int} (p : xs.Perm ys) (h1 : xs.Pairwise (· ≤ ·)) (h2 : ys.Pairwise (· ≤ ·)) : xs = ys :=
  p.eq_of_pairwise (fun a b _ _ h k => Int.le_antisymm h k) h1 h2
def sortI (xs : List Int) : List Int := xs.mergeSort (fun a b => decide (a ≤ b))
theorem sortI_perm (xs : List Int) : (sortI xs).Perm xs := List.mergeSort_perm _ _
theorem sortI_pair (xs : List Int) : (sortI xs).Pairwise (· ≤ ·) :=
  (List.pairwise_mergeSort (le := fun a b => decide (a ≤ b)) (fun a b c h k => decide_eq_true (Int.le_trans (of_decide_eq_true h) (of_decide_eq_true k))) (fun a b => by
    rcases Int.le_total a b with h | h
    · simp [h]
    · simp [h]) xs).imp fun h => of_decide_eq_true h
/-- the keys as order hands them out -/
def ordL (kvs : List Ent) : List D := (sortI (kvs.map (·.2.1))).map (ownD kvs)
theorem ord_uniq {kvs : List Ent} {ms : List Int} (h : (kvs.map (·.2.1)).Nodup) (p : ms.Perm (ranksD kvs)) (a : ms.Pairwise (· ≤ ·)) : ms.map (ownD kvs) = ordL kvs := by
  unfold ordL
  rw [ranks_distinct h] at p
  rw [sort_uniq (p.trans (sortI_perm _).symm) a (sortI_pair _)]
/-- a table as it should be -/
structure Wt (c : Tab) : Prop where
  nd : (c.kvs.map (·.1)).Nodup
  rk : (c.kvs.map (·.2.1)).Nodup
  key : ∀ e ∈ c.kvs, 0 ≤ e.1 ∧ e.1 ≤ 1000000000
  few : c.kvs.length ≤ 100
  sz : c.size = c.kvs.length
  mks : c.marked = (c.kvs.filter fun e => e.2.2.1).length
theorem getE_at {kvs : List Ent} (h : (kvs.map (·.1)).Nodup) {e : Ent} (he : e ∈ kvs) : getE kvs e.1 = some e.2 := by
  unfold getE
  induction kvs with
  | nil => cases he
  | cons f r ih =>
    rw [List.map_cons] at h
    have nd := List.nodup_cons.mp h
    rw [List.find?_cons]
    rcases List.mem_cons.mp he with y | y
    · subst y
      rw [decide_eq_true rfl] <;> rfl
    · have ne : ¬ f.1 = e.1 := fun w => nd.1 (by rw [w]; exact List.mem_map.mpr ⟨e, y, rfl⟩)
      rw [decide_eq_false ne]
      exact ih nd.2 y
theorem put_drop {kvs : List Ent} {i : Int} {e : Int × Bool × Int} (h : getE kvs i = none) : dropE (putE kvs i e) i = kvs ∧ getE (putE kvs i e) i = some e ∧ putE kvs i e = kvs ++ [(i, e)] := by
  have h' := getE_none.mp h
  have hp : putE kvs i e = kvs ++ [(i, e)] := by
    unfold putE
    rw [if_neg]
    intro z
    obtain ⟨p, hp, hz⟩ := List.any_eq_true.mp z
    exact h' (List.mem_map.mpr ⟨p, hp, of_decide_eq_true hz⟩)
  rw [hp]
  refine ⟨?_, ?_, rfl⟩
  · unfold dropE
    rw [List.filter_append]
    have e1 : kvs.filter (fun p => decide (p.1 ≠ i)) = kvs := List.filter_eq_self.mpr fun p hp => decide_eq_true fun z => h' (List.mem_map.mpr ⟨p, hp, z⟩)
    rw [e1]
    simp
  · unfold getE
    have e1 : kvs.find? (fun e => decide (e.1 = i)) = none := by
      refine List.find?_eq_none.mpr fun p hp z => h' (List.mem_map.mpr ⟨p, hp, of_decide_eq_true z⟩)
    rw [List.find?_append, e1]
    simp
end Toy

set_option Elab.async false
set_option linter.all false
set_option maxRecDepth 100000
set_option maxHeartbeats 1000000
namespace Toy
open PySem PySem.Spec PyProof.Rows L2 My Dt SX
local macro_rules | `(tactic| walk_at "rg") => `(tactic| first
  | omega
  | ((refine And.intro ?_ (And.intro ?_ (And.intro ?_ ?_))) <;> omega))
local macro_rules | `(tactic| walk_at "ls") => `(tactic| first
  | with_reducible exact ls_v
  | with_reducible exact ls_b
  | ((with_reducible refine' ls_p ?hlp); (case hlp => with_reducible assumption)))
local macro_rules | `(tactic| walk_at "start") => `(tactic| ((simp only [startM, startS, List.map_cons, List.map_nil, List.length_cons, List.length_nil, List.cons_append, List.nil_append, Nat.reduceAdd, Nat.reduceSub, List.replicate_succ, List.replicate_zero]); exact rfl))
local macro_rules | `(tactic| walk_at "set") => `(tactic| first
  | ((dsimp only [Int.reduceToNat, List.set_cons_zero, List.set_cons_succ, VO.sl]); done)
  | ((dsimp only [Int.reduceToNat, List.set_cons_zero, List.set_cons_succ, VO.sl]); exact rfl)
  | exact rfl)
local macro_rules | `(tactic| walk_at "sz") => `(tactic| first
  | exact sz_of (Nat.le_of_ble_eq_true rfl)
  | (apply sz_of; simp only [List.length_cons, List.length_nil, List.length_append, List.length_map]; omega))
local macro_rules | `(tactic| walk_at "side") => `(tactic| first
  | with_reducible assumption
  | omega
  | exact ml (by omega) (by omega)
  | exact mr (by omega) (by omega)
  | exact dv (by omega) (by omega)
  | exact Bd.mulOk (by with_reducible assumption) (by with_reducible assumption) (by decide) (by decide) (by decide)
  | exact Bd.div (by with_reducible assumption) (by omega) (by decide) (by decide)
  | (show (0 : Int) < _; omega)
  | exact ⟨by decide, by decide, by decide⟩
  | decide
  | exact rfl)
local macro_rules | `(tactic| walk_at "st") => `(tactic| first
  | with_reducible refine q_seq ?_
  | with_reducible refine q_end ?_
  | with_reducible refine q_nil ?_
  | with_reducible refine q_asg ?_
  | with_reducible refine q_asg2 ?_
  | with_reducible refine q_ret ?_
  | with_reducible refine q_if ?_
  | with_reducible refine q_expr ?_
  | with_reducible refine q_retN ?_
  | with_reducible refine q_sub ?_
  | with_reducible refine q_for ?_
  | with_reducible refine q_del ?_
  | with_reducible refine q_par ?_
  | with_reducible refine q_par3 ?_
  | with_reducible refine q_parV ?_
  | with_reducible refine q_parV3 ?_
  | with_reducible refine q_asgF ?_
  | with_reducible refine q_asgC ?_
  | ((with_reducible refine' q_frz ?ef ?_); (case ef => exact rfl))
  | ((with_reducible refine' q_app ?ea ?eb ?_); (case ea => exact rfl); (case eb => walk_at "slen"))
  | with_reducible refine q_brk ?_
  | with_reducible refine q_cnt ?_
  | with_reducible refine q_fldS ?_
  | with_reducible refine q_fldP ?_
  | with_reducible refine q_raise ?_
  | with_reducible refine q_try ?_)
local macro_rules | `(tactic| walk_at "slen") => `(tactic| first
  | with_reducible assumption
  | ((rw [sizeLine_eq]); (simp only [List.length_cons, List.length_nil, List.length_append, List.length_map]); omega))
local macro_rules | `(tactic| walk_at "sm") => `(tactic| first
  | with_reducible refine s_add ?_
  | with_reducible refine s_sub ?_
  | ((with_reducible refine' s_mul ?hm ?_); (case hm => walk_at "side"))
  | ((with_reducible refine' s_fdiv ?hm ?_); (case hm => walk_at "side"))
  | ((with_reducible refine' s_mod ?hm ?_); (case hm => walk_at "side"))
  | with_reducible refine s_neg ?_
  | ((with_reducible refine' s_pow ?hm ?_); (case hm => walk_at "side"))
  | ((with_reducible refine' s_ixL ?hl ?he ?_); (case hl => walk_at "ls"); (case he => exact rfl))
  | ((with_reducible refine' s_ixT ?he ?_); (case he => exact rfl))
  | ((with_reducible refine' set_L2 ?ha ?hb ?hc ?_); (case ha => with_reducible assumption); (case hb => exact rfl); (case hc => walk_at "set"))
  | with_reducible refine s_addB ?_
  | with_reducible refine s_lt ?_
  | with_reducible refine s_le ?_
  | with_reducible refine s_gt ?_
  | with_reducible refine s_ge ?_
  | with_reducible refine s_eq ?_
  | with_reducible refine s_ne ?_
  | ((with_reducible refine' s_neSame ?he ?_); (case he => with_reducible rfl))
  | ((with_reducible refine' s_eqSame ?he ?_); (case he => with_reducible rfl))
  | with_reducible refine s_eqS ?_
  | with_reducible refine s_neS ?_
  | with_reducible refine s_isN ?_
  | with_reducible refine s_isNotN ?_
  | with_reducible refine t_bl ?_)
local macro_rules | `(tactic| walk_at "cl") => `(tactic| first
  | with_reducible refine c_int ?_
  | with_reducible refine c_intB ?_
  | with_reducible refine c_abs ?_
  | ((with_reducible refine' c_max ?hm ?_); (case hm => exact rfl))
  | ((with_reducible refine' c_min ?hm ?_); (case hm => exact rfl))
  | ((with_reducible refine' c_divmod ?hm ?_); (case hm => walk_at "side"))
  | ((with_reducible refine' c_len ?hm ?_); (case hm => walk_at "sq"))
  | ((with_reducible refine' c_list ?hm ?_); (case hm => walk_at "sq"))
  | ((with_reducible refine' c_tuple ?hm ?_); (case hm => walk_at "sq")))
local macro_rules | `(tactic| walk_at "sq") => `(tactic| first
  | exact sqL
  | exact sqT
  | exact sqB
  | exact sqP (by with_reducible assumption))
local macro_rules | `(tactic| walk_at "v") => `(tactic| first
  | ((with_reducible refine' v_sh ?ev ?_); (case ev => exact rfl))
  | ((with_reducible refine' v_ol ?ev ?_); (case ev => exact rfl))
  | ((with_reducible refine' v_slf ?ev ?_); (case ev => exact rfl))
  | with_reducible refine q_val ?_
  | ((with_reducible refine' q_walk ?ew ?_); (case ew => exact rfl))
  | ((with_reducible refine' q_rng1 ?ej ?ek ?_); (case ej => walk_at "rg"); (case ek => walk_at "rg"))
  | ((with_reducible refine' q_rng2 ?ej ?_); (case ej => walk_at "rg"))
  | with_reducible refine q_rngL ?_
  | with_reducible refine q_solc ?_
  | with_reducible refine q_sol0 ?_
  | ((with_reducible refine' q_gname ?eg ?_); (case eg => walk_at "set"))
  | ((with_reducible refine' n_set ?eg ?_); (case eg => walk_at "set"))
  | ((with_reducible refine' n_set2 ?eg ?_); (case eg => walk_at "set"))
  | ((with_reducible refine' n_set3 ?eg ?_); (case eg => walk_at "set"))
  | with_reducible refine q_two ?_
  | with_reducible refine q_three ?_
  | with_reducible refine q_vv ?_
  | with_reducible refine q_isS ?_
  | with_reducible refine q_isL ?_
  | with_reducible refine q_twoV ?_
  | with_reducible refine q_threeV ?_
  | with_reducible refine q_bl ?_
  | with_reducible refine q_oint ?_
  | ((with_reducible refine' q_gtup ?el ?_); (case el => exact rfl))
  | with_reducible refine q_gcons ?_
  | with_reducible refine q_gnil ?_
  | with_reducible refine i_t ?_
  | with_reducible refine i_f ?_
  | with_reducible refine i_nt ?_
  | with_reducible refine i_nf ?_
  | ((with_reducible refine' n_t ?en ?_); (case en => exact rfl))
  | ((with_reducible refine' n_f ?en ?_); (case en => exact rfl))
  | ((with_reducible refine' nn_t ?en ?_); (case en => exact rfl))
  | ((with_reducible refine' nn_f ?en ?_); (case en => exact rfl))
  | with_reducible refine And.intro (by walk_at "sz") ?_)
local macro_rules | `(tactic| walk_at "d") => `(tactic| first
  | walk_at "v"
  | walk_at "st"
  | walk_at "sm"
  | walk_at "cl"
  | walk_at "at")
local macro_rules | `(tactic| walk_at "dd") => `(tactic| repeat walk_at "d")
local macro_rules | `(tactic| walk_at "tx") => `(tactic| simp only [l_dash, l_dot, l_nil, l_space, l_figs, l_signs])

variable {P : Program} {w : World} {K : PySem.W.Frag} {mg : Str → Option Value} {base : Heap} {S : Sto} {Ex : XS} {Q : QO}

theorem inR_i {i : Int} (h0 : 0 ≤ i) (h1 : i ≤ 1000000000) : inR (.int i) 0 FAR = true := by
  show (decide _ && decide _) = true
  rw [decide_eq_true h0, decide_eq_true (show i ≤ FAR from h1)] <;> rfl
theorem inR_r {i : Int} (h0 : -1000000000 ≤ i) (h1 : i ≤ 1000000000) : inR (.int i) (-FAR) FAR = true := by
  show (decide _ && decide _) = true
  rw [decide_eq_true (show -FAR ≤ i from h0), decide_eq_true (show i ≤ FAR from h1)] <;> rfl
/-- keys and ranks of the right size -/
abbrev KR (kvs : List Ent) : Prop := ∀ e ∈ kvs, (0 ≤ e.1 ∧ e.1 ≤ 1000000000) ∧ (-1000000000 ≤ e.2.1 ∧ e.2.1 ≤ 1000000000)
abbrev rowP (e : Ent) : PyData := .tuple [.int e.1, .int e.2.1, .bool e.2.2.1]
theorem rows_p {kvs : List Ent} (few : kvs.length ≤ 100) (kr : KR kvs) : pd (rowsE kvs) = some (.list (kvs.map rowP)) ∧ Fine 2 20000 13 (.list (kvs.map rowP)) := by
  refine ⟨?_, Fine.list (n := 1) (w := 130) (fps_map fun e he => ?_) (by rw [List.length_map]; omega)⟩
  · show (pds (kvs.map rowE)).map _ = _
    rw [pds_map (f := rowE) (g := rowP) (fun _ => rfl) kvs] <;> rfl
  · obtain ⟨k, r⟩ := kr e he
    exact Fine.tuple (n := 0) (w := 40) (fps_cons (fp_small (by omega) (by decide)) (fps_cons (fp_small (by omega) (by decide)) (fps_cons fp_bool fps_nil))) (by simp)
theorem ok_tag (T : Tx K mg) {n : Nat} (h : Strm S n) (q : ∀ i S', 0 ≤ i → i ≤ 1000000000 → Strm S' n → Bt n S S' → Q (.v (.int i)) S') : sFun (bs P w K mg base) 2 (.ref (He.ga K "_law_tag")) [] [.ptr n] [] S Ex Q := by
  refine' call_d (B := bs P w K mg base) 1 (Classical.choose_spec T.d_law_tag) sc_law_tag rfl (bm_all (ps := ["_law_stream_here"]) (Classical.choose_spec T.d_law_tag) (fun _ _ _ _ _ _ us hl => match us, hl with | [_], _ => rfl)) (dss_cons (dst 1 (de_call rfl rfl ⟨T.g_law_draw, (Classical.choose_spec T.d_law_draw).kp⟩ (da_cons (dv 0) (da_cons de_int da_nil)))) (dss_cons (ds_if (dt_cmp (dv 1) de_int) (dss_one (ds_ret (de_call rfl rfl ⟨T.g_law_draw, (Classical.choose_spec T.d_law_draw).kp⟩ (da_cons (dv 0) (da_cons de_int da_nil))))) dss_nil) (dss_one (ds_ret (de_if (dt_cmp (dv 1) de_int) (de_bin (de_bin de_int de_int) (de_call rfl rfl ⟨T.g_law_draw, (Classical.choose_spec T.d_law_draw).kp⟩ (da_cons (dv 0) (da_cons de_int da_nil)))) (de_call rfl rfl ⟨T.g_law_draw, (Classical.choose_spec T.d_law_draw).kp⟩ (da_cons (dv 0) (da_cons (de_bin (de_bin de_int de_int) de_int) da_nil)))))))) ⟨rfl, rfl⟩ ?st ?_
  case st => walk_at "start"
  walk_at "dd"
  refine (ok_draw T h (by decide) (by decide) fun v S1 v0 v1 hs1 b1 => ?_).mono (Nat.le_of_ble_eq_true rfl)
  walk_at "dd"
  refine i_two (fun c1 => ?_) fun c1 => ?_
  · walk_at "dd"
    refine (ok_draw T hs1 (by decide) (by decide) fun x S2 x0 x1 hs2 b2 => ?_).mono (Nat.le_of_ble_eq_true rfl)
    walk_at "dd"
    exact q _ _ x0 (by omega) hs2 (b1.trans b2)
  · walk_at "dd"
    refine i_two (fun c2 => ?_) fun c2 => ?_
    · walk_at "dd"
      refine (ok_draw T hs1 (by decide) (by decide) fun x S2 x0 x1 hs2 b2 => ?_).mono (Nat.le_of_ble_eq_true rfl)
      walk_at "dd"
      rw [show (10 : Int) ^ (9 : Int).toNat = 1000000000 from rfl]
      exact q _ _ (by omega) (by omega) hs2 (b1.trans b2)
    · walk_at "dd"
      refine (ok_draw T hs1 (by decide) (by decide) fun x S2 x0 x1 hs2 b2 => ?_).mono (Nat.le_of_ble_eq_true rfl)
      walk_at "dd"
      have x1 : x < 1000000001 := x1
      exact q _ _ x0 (by omega) hs2 (b1.trans b2)
theorem ok_place (T : Tx K mg) {n : Nat} (h : Strm S n) (q : ∀ i S', -1000000000 ≤ i → i ≤ 1000000000 → Strm S' n → Bt n S S' → Q (.v (.int i)) S') : sFun (bs P w K mg base) 2 (.ref (He.ga K "_law_place")) [] [.ptr n] [] S Ex Q := by
  refine' call_d (B := bs P w K mg base) 1 (Classical.choose_spec T.d_law_place) sc_law_place rfl (bm_all (ps := ["_law_stream_here"]) (Classical.choose_spec T.d_law_place) (fun _ _ _ _ _ _ us hl => match us, hl with | [_], _ => rfl)) (dss_cons (dst 1 (de_call rfl rfl ⟨T.g_law_draw, (Classical.choose_spec T.d_law_draw).kp⟩ (da_cons (dv 0) (da_cons de_int da_nil)))) (dss_cons (ds_if (dt_cmp (dv 1) de_int) (dss_one (ds_ret (de_bin (de_call rfl rfl ⟨T.g_law_draw, (Classical.choose_spec T.d_law_draw).kp⟩ (da_cons (dv 0) (da_cons de_int da_nil))) de_int))) dss_nil) (dss_one (ds_ret (de_if (dt_cmp (dv 1) de_int) (de_bin (de_bin de_int de_int) (de_bin (de_bin de_int (de_call rfl rfl ⟨T.g_law_draw, (Classical.choose_spec T.d_law_draw).kp⟩ (da_cons (dv 0) (da_cons de_int da_nil)))) de_int)) (de_bin (de_call rfl rfl ⟨T.g_law_draw, (Classical.choose_spec T.d_law_draw).kp⟩ (da_cons (dv 0) (da_cons (de_bin (de_bin de_int (de_bin de_int de_int)) de_int) da_nil))) (de_bin de_int de_int))))))) ⟨rfl, rfl⟩ ?st ?_
  case st => walk_at "start"
  walk_at "dd"
  refine (ok_draw T h (by decide) (by decide) fun v S1 v0 v1 hs1 b1 => ?_).mono (Nat.le_of_ble_eq_true rfl)
  walk_at "dd"
  refine i_two (fun c1 => ?_) fun c1 => ?_
  · walk_at "dd"
    refine (ok_draw T hs1 (by decide) (by decide) fun x S2 x0 x1 hs2 b2 => ?_).mono (Nat.le_of_ble_eq_true rfl)
    walk_at "dd"
    exact q _ _ (by omega) (by omega) hs2 (b1.trans b2)
  · walk_at "dd"
    refine i_two (fun c2 => ?_) fun c2 => ?_
    · walk_at "dd"
      refine (ok_draw T hs1 (by decide) (by decide) fun x S2 x0 x1 hs2 b2 => ?_).mono (Nat.le_of_ble_eq_true rfl)
      walk_at "dd"
      rw [show (10 : Int) ^ (9 : Int).toNat = 1000000000 from rfl]
      exact q _ _ (by omega) (by omega) hs2 (b1.trans b2)
    · walk_at "dd"
      refine (ok_draw T hs1 (by decide) (by decide) fun x S2 x0 x1 hs2 b2 => ?_).mono (Nat.le_of_ble_eq_true rfl)
      walk_at "dd"
      have x1 : x < 2000000001 := x1
      rw [show (10 : Int) ^ (9 : Int).toNat = 1000000000 from rfl]
      exact q _ _ (by omega) (by omega) hs2 (b1.trans b2)
theorem ok_old_tag (T : Tx K mg) {n : Nat} {kvs : List Ent} (h : Strm S n) (few : kvs.length ≤ 100) (kr : KR kvs) (q : ∀ i S', 0 ≤ i → i ≤ 1000000000 → Strm S' n → Bt n S S' → Q (.v (.int i)) S') : sFun (bs P w K mg base) 3 (.ref (He.ga K "_law_old_tag")) [] [.ptr n, rowsE kvs] [] S Ex Q := by
  refine' call_d (B := bs P w K mg base) 2 (Classical.choose_spec T.d_law_old_tag) sc_law_old_tag rfl (bm_all (ps := ["_law_stream_here", "_law_rows"]) (Classical.choose_spec T.d_law_old_tag) (fun _ _ _ _ _ _ us hl => match us, hl with | [_, _], _ => rfl)) (dss_cons (dst 2 (de_call rfl rfl ⟨T.g_law_draw, (Classical.choose_spec T.d_law_draw).kp⟩ (da_cons (dv 0) (da_cons de_int da_nil)))) (dss_one (ds_ret (de_if (DW.dt (dw_and (dt_cmp (dv 2) de_int) (dw_and1 (dt_cmp (dv 1) (de_lstV da_nil))))) (de_ix (de_ix (dv 1) (de_call rfl rfl ⟨T.g_law_draw, (Classical.choose_spec T.d_law_draw).kp⟩ (da_cons (dv 0) (da_cons (de_callB (id := "len") rfl T.f_len (by decide +kernel) (da_cons (dv 1) da_nil)) da_nil))) (fun _ _ => rfl)) de_int (fun _ _ => rfl)) (de_call rfl rfl ⟨T.g_law_tag, (Classical.choose_spec T.d_law_tag).kp⟩ (da_cons (dv 0) da_nil)))))) ⟨rfl, rfl⟩ ?st ?_
  case st => walk_at "start"
  walk_at "dd"
  refine (ok_draw T h (by decide) (by decide) fun v S1 v0 v1 hs1 b1 => ?_).mono (Nat.le_of_ble_eq_true rfl)
  walk_at "dd"
  have tg : ∀ {R : QO}, (∀ i S', 0 ≤ i → i ≤ 1000000000 → Strm S' n → Bt n S S' → R (.v (.int i)) S') → sFun (bs P w K mg base) 2 (.ref (He.ga K "_law_tag")) [] [.ptr n] [] S1 Ex R := fun r => ok_tag T hs1 fun i S2 i0 i1 hs2 b2 => r i S2 i0 i1 hs2 (b1.trans b2)
  refine i_two (fun c1 => ?_) fun c1 => ?_
  · walk_at "dd"
    refine (show sem2 _ _ _ (.v (rowsE kvs)) (.v (.lst [])) _ _ _ from ?_)
    obtain ⟨ep, fp⟩ := rows_p few kr
    refine s_neF (pdV ep) (pdV (d := .lst []) (p := .list []) rfl) fp (Fine.list (n := 0) (w := 0) (b := 13) (u := 0) fps_nil (Nat.zero_le _)) (by decide) (by decide) ?_
    cases kvs with
    | nil =>
      rw [show (!PyData.eqv (.list (([] : List Ent).map rowP)) (.list [])) = false from rfl]
      walk_at "dd"
      exact (tg fun i S2 i0 i1 hs2 b2 => ⟨_, rfl, q i S2 i0 i1 hs2 b2⟩).mono (Nat.le_of_ble_eq_true rfl)
    | cons e0 r0 =>
      rw [show (!PyData.eqv (.list ((e0 :: r0).map rowP)) (.list [])) = true from rfl]
      walk_at "dd"
      refine (ok_draw T hs1 (by rw [List.length_map, List.length_cons]; omega) (Int.lt_of_le_of_lt (b := 1000) (by rw [List.length_map]; omega) (by decide)) fun x S2 x0 x1 hs2 b2 => ?_).mono (Nat.le_of_ble_eq_true rfl)
      obtain ⟨d, ed, hd⟩ := at_lit (xs := (e0 :: r0).map rowE) x0 x1
      obtain ⟨e, he, rfl⟩ := List.mem_map.mp hd
      walk_at "dd"
      refine s_ixL ls_v ed ?_
      walk_at "dd"
      exact q _ _ (kr e he).1.1 (kr e he).1.2 hs2 (b1.trans b2)
  · walk_at "dd"
    exact (tg fun i S2 i0 i1 hs2 b2 => ⟨_, rfl, q i S2 i0 i1 hs2 b2⟩).mono (Nat.le_of_ble_eq_true rfl)
end Toy

set_option Elab.async false
set_option linter.all false
set_option maxRecDepth 100000
set_option maxHeartbeats 1000000
namespace Toy
open PySem PySem.Spec PyProof.Rows L2 My Dt SX
local macro_rules | `(tactic| walk_at "rg") => `(tactic| first
  | omega
  | ((refine And.intro ?_ (And.intro ?_ (And.intro ?_ ?_))) <;> omega))
local macro_rules | `(tactic| walk_at "ls") => `(tactic| first
  | with_reducible exact ls_v
  | with_reducible exact ls_b
  | ((with_reducible refine' ls_p ?hlp); (case hlp => with_reducible assumption)))
local macro_rules | `(tactic| walk_at "start") => `(tactic| ((simp only [startM, startS, List.map_cons, List.map_nil, List.length_cons, List.length_nil, List.cons_append, List.nil_append, Nat.reduceAdd, Nat.reduceSub, List.replicate_succ, List.replicate_zero]); exact rfl))
local macro_rules | `(tactic| walk_at "set") => `(tactic| first
  | ((dsimp only [Int.reduceToNat, List.set_cons_zero, List.set_cons_succ, VO.sl]); done)
  | ((dsimp only [Int.reduceToNat, List.set_cons_zero, List.set_cons_succ, VO.sl]); exact rfl)
  | exact rfl)
local macro_rules | `(tactic| walk_at "sz") => `(tactic| first
  | exact sz_of (Nat.le_of_ble_eq_true rfl)
  | (apply sz_of; simp only [List.length_cons, List.length_nil, List.length_append, List.length_map]; omega))
local macro_rules | `(tactic| walk_at "side") => `(tactic| first
  | with_reducible assumption
  | omega
  | exact ml (by omega) (by omega)
  | exact mr (by omega) (by omega)
  | exact dv (by omega) (by omega)
  | exact Bd.mulOk (by with_reducible assumption) (by with_reducible assumption) (by decide) (by decide) (by decide)
  | exact Bd.div (by with_reducible assumption) (by omega) (by decide) (by decide)
  | (show (0 : Int) < _; omega)
  | exact ⟨by decide, by decide, by decide⟩
  | decide
  | exact rfl)
local macro_rules | `(tactic| walk_at "st") => `(tactic| first
  | with_reducible refine q_seq ?_
  | with_reducible refine q_end ?_
  | with_reducible refine q_nil ?_
  | with_reducible refine q_asg ?_
  | with_reducible refine q_asg2 ?_
  | with_reducible refine q_ret ?_
  | with_reducible refine q_if ?_
  | with_reducible refine q_expr ?_
  | with_reducible refine q_retN ?_
  | with_reducible refine q_sub ?_
  | with_reducible refine q_for ?_
  | with_reducible refine q_del ?_
  | with_reducible refine q_par ?_
  | with_reducible refine q_par3 ?_
  | with_reducible refine q_parV ?_
  | with_reducible refine q_parV3 ?_
  | with_reducible refine q_asgF ?_
  | with_reducible refine q_asgC ?_
  | ((with_reducible refine' q_frz ?ef ?_); (case ef => exact rfl))
  | ((with_reducible refine' q_app ?ea ?eb ?_); (case ea => exact rfl); (case eb => walk_at "slen"))
  | with_reducible refine q_brk ?_
  | with_reducible refine q_cnt ?_
  | with_reducible refine q_fldS ?_
  | with_reducible refine q_fldP ?_
  | with_reducible refine q_raise ?_
  | with_reducible refine q_try ?_)
local macro_rules | `(tactic| walk_at "slen") => `(tactic| first
  | with_reducible assumption
  | ((rw [sizeLine_eq]); (simp only [List.length_cons, List.length_nil, List.length_append, List.length_map]); omega))
local macro_rules | `(tactic| walk_at "sm") => `(tactic| first
  | with_reducible refine s_add ?_
  | with_reducible refine s_sub ?_
  | ((with_reducible refine' s_mul ?hm ?_); (case hm => walk_at "side"))
  | ((with_reducible refine' s_fdiv ?hm ?_); (case hm => walk_at "side"))
  | ((with_reducible refine' s_mod ?hm ?_); (case hm => walk_at "side"))
  | with_reducible refine s_neg ?_
  | ((with_reducible refine' s_pow ?hm ?_); (case hm => walk_at "side"))
  | ((with_reducible refine' s_ixL ?hl ?he ?_); (case hl => walk_at "ls"); (case he => exact rfl))
  | ((with_reducible refine' s_ixT ?he ?_); (case he => exact rfl))
  | ((with_reducible refine' set_L2 ?ha ?hb ?hc ?_); (case ha => with_reducible assumption); (case hb => exact rfl); (case hc => walk_at "set"))
  | with_reducible refine s_addB ?_
  | with_reducible refine s_lt ?_
  | with_reducible refine s_le ?_
  | with_reducible refine s_gt ?_
  | with_reducible refine s_ge ?_
  | with_reducible refine s_eq ?_
  | with_reducible refine s_ne ?_
  | ((with_reducible refine' s_neSame ?he ?_); (case he => with_reducible rfl))
  | ((with_reducible refine' s_eqSame ?he ?_); (case he => with_reducible rfl))
  | with_reducible refine s_eqS ?_
  | with_reducible refine s_neS ?_
  | with_reducible refine s_isN ?_
  | with_reducible refine s_isNotN ?_
  | with_reducible refine t_bl ?_)
local macro_rules | `(tactic| walk_at "cl") => `(tactic| first
  | with_reducible refine c_int ?_
  | with_reducible refine c_intB ?_
  | with_reducible refine c_abs ?_
  | ((with_reducible refine' c_max ?hm ?_); (case hm => exact rfl))
  | ((with_reducible refine' c_min ?hm ?_); (case hm => exact rfl))
  | ((with_reducible refine' c_divmod ?hm ?_); (case hm => walk_at "side"))
  | ((with_reducible refine' c_len ?hm ?_); (case hm => walk_at "sq"))
  | ((with_reducible refine' c_list ?hm ?_); (case hm => walk_at "sq"))
  | ((with_reducible refine' c_tuple ?hm ?_); (case hm => walk_at "sq")))
local macro_rules | `(tactic| walk_at "sq") => `(tactic| first
  | exact sqL
  | exact sqT
  | exact sqB
  | exact sqP (by with_reducible assumption))
local macro_rules | `(tactic| walk_at "v") => `(tactic| first
  | ((with_reducible refine' v_sh ?ev ?_); (case ev => exact rfl))
  | ((with_reducible refine' v_ol ?ev ?_); (case ev => exact rfl))
  | ((with_reducible refine' v_slf ?ev ?_); (case ev => exact rfl))
  | with_reducible refine q_val ?_
  | ((with_reducible refine' q_walk ?ew ?_); (case ew => exact rfl))
  | ((with_reducible refine' q_rng1 ?ej ?ek ?_); (case ej => walk_at "rg"); (case ek => walk_at "rg"))
  | ((with_reducible refine' q_rng2 ?ej ?_); (case ej => walk_at "rg"))
  | with_reducible refine q_rngL ?_
  | with_reducible refine q_solc ?_
  | with_reducible refine q_sol0 ?_
  | ((with_reducible refine' q_gname ?eg ?_); (case eg => walk_at "set"))
  | ((with_reducible refine' n_set ?eg ?_); (case eg => walk_at "set"))
  | ((with_reducible refine' n_set2 ?eg ?_); (case eg => walk_at "set"))
  | ((with_reducible refine' n_set3 ?eg ?_); (case eg => walk_at "set"))
  | with_reducible refine q_two ?_
  | with_reducible refine q_three ?_
  | with_reducible refine q_vv ?_
  | with_reducible refine q_isS ?_
  | with_reducible refine q_isL ?_
  | with_reducible refine q_twoV ?_
  | with_reducible refine q_threeV ?_
  | with_reducible refine q_bl ?_
  | with_reducible refine q_oint ?_
  | ((with_reducible refine' q_gtup ?el ?_); (case el => exact rfl))
  | with_reducible refine q_gcons ?_
  | with_reducible refine q_gnil ?_
  | with_reducible refine i_t ?_
  | with_reducible refine i_f ?_
  | with_reducible refine i_nt ?_
  | with_reducible refine i_nf ?_
  | ((with_reducible refine' n_t ?en ?_); (case en => exact rfl))
  | ((with_reducible refine' n_f ?en ?_); (case en => exact rfl))
  | ((with_reducible refine' nn_t ?en ?_); (case en => exact rfl))
  | ((with_reducible refine' nn_f ?en ?_); (case en => exact rfl))
  | with_reducible refine And.intro (by walk_at "sz") ?_)
local macro_rules | `(tactic| walk_at "d") => `(tactic| first
  | walk_at "v"
  | walk_at "st"
  | walk_at "sm"
  | walk_at "cl"
  | walk_at "at")
local macro_rules | `(tactic| walk_at "dd") => `(tactic| repeat walk_at "d")
local macro_rules | `(tactic| walk_at "tx") => `(tactic| simp only [l_dash, l_dot, l_nil, l_space, l_figs, l_signs])

variable {P : Program} {w : World} {K : PySem.W.Frag} {mg : Str → Option Value} {base : Heap} {S : Sto} {Ex : XS} {Q : QO}

/-- what becomes of a put in the law -/
structure PutL (S : Sto) (j m : Nat) (c : Tab) (i r : Int) (b : Bool) (Ex : XS) (Q : Sto → Prop) : Prop where
  ok : ∀ S', getE c.kvs i = none → hasRank c.kvs r = false → HasT S' j m (c.put i r b) → Bt2 j m S S' → Q S'
  e2 : ∀ e, getE c.kvs i = some e → Ex "KnownRow" [("key", .int i)] S
  e4 : getE c.kvs i = none → hasRank c.kvs r = true → Ex "SameRank" [("rank", .int r)] S
theorem PutL.to {j m : Nat} {c : Tab} {i r : Int} {b : Bool} {Q : Sto → Prop} (p : PutL S j m c i r b Ex Q) (i1 : inR (.int i) 0 FAR = true) (i2 : inR (.int r) (-FAR) FAR = true) : PutK S j m c (.int i) (.int r) (.bl b) Ex Q where
  ok := fun i' r' b' S' ed er eb _ _ g hk h2 b2 => by cases ed; cases er; cases eb; exact p.ok S' g hk h2 b2
  e1 := fun r' => absurd (i1.symm.trans r') (by decide)
  e2 := fun i' e ed _ g2 => by cases ed; exact p.e2 e g2
  e3 := fun _ _ _ _ i2' => absurd (i2.symm.trans i2') (by decide)
  e4 := fun i' r' ed _ g er _ hk' => by cases ed; cases er; exact p.e4 g hk'
  e5 := fun i' r' _ _ _ _ _ _ nb => by cases nb
theorem ok_lput (T : Tx K mg) {j m : Nat} {c : Tab} {i r how : Int} {b : Bool} (h : HasT S j m c) (few : c.kvs.length ≤ 1000) (i1 : inR (.int i) 0 FAR = true) (i2 : inR (.int r) (-FAR) FAR = true) (p : PutL S j m c i r b Ex fun S' => Q (.v .non) S') :
    sFun (bs P w K mg base) 6 (.ref (He.ga K "_law_put")) [] [.ptr j, .tup [.int i, .int r, .bl b], .int how] [] S Ex Q := by
  refine' call_d (B := bs P w K mg base) 5 (Classical.choose_spec T.d_law_put) sc_law_put rfl (bm_all (ps := ["_law_table", "_law_row", "_law_how"]) (Classical.choose_spec T.d_law_put) (fun _ _ _ _ _ _ us hl => match us, hl with | [_, _, _], _ => rfl)) (dss_cons (ds_if (DW.dt (dw_and (dt_cmp (dv 2) de_int) (dw_and1 (dt_not (dt_val (de_ix (dv 1) de_int (fun _ _ => rfl))))))) (dss_one (ds_ret (de_me rfl (dv 0) (da_cons (de_ix (dv 1) de_int (fun _ _ => rfl)) (da_cons (de_ix (dv 1) de_int (fun _ _ => rfl)) da_nil))))) dss_nil) (dss_cons (ds_if (dt_cmp (dv 2) de_int) (dss_one (ds_ret (de_mek0 (ks := ["marked", "rank", "key"]) rfl (dv 0) (dk_cons (de_ix (dv 1) de_int (fun _ _ => rfl)) (dk_cons (de_ix (dv 1) de_int (fun _ _ => rfl)) (dk_cons (de_ix (dv 1) de_int (fun _ _ => rfl)) dk_nil)))))) dss_nil) (dss_one (ds_ret (de_if (dt_cmp (dv 2) de_int) (de_mek (ks := ["marked"]) rfl (dv 0) (da_cons (de_ix (dv 1) de_int (fun _ _ => rfl)) (da_cons (de_ix (dv 1) de_int (fun _ _ => rfl)) da_nil)) (dk_cons (de_ix (dv 1) de_int (fun _ _ => rfl)) dk_nil)) (de_me rfl (dv 0) (da_cons (de_ix (dv 1) de_int (fun _ _ => rfl)) (da_cons (de_ix (dv 1) de_int (fun _ _ => rfl)) (da_cons (de_ix (dv 1) de_int (fun _ _ => rfl)) da_nil))))))))) ⟨rfl, rfl⟩ ?st ?_
  case st => walk_at "start"
  have p' : PutL S j m c i r b Ex fun S' => (fun o S1 => ∃ d, o = O.v d ∧ Q (.v d) S1) (.v .non) S' := ⟨fun S' a b' c' d' => ⟨_, rfl, p.ok S' a b' c' d'⟩, p.e2, p.e4⟩
  clear p
  walk_at "dd"
  have tail : ∀ {ρ : Prop} (x : ρ), ρ := fun x => x
  refine i_two (fun c1 => ?_) fun c1 => ?_
  · walk_at "dd"
    cases b with
    | false =>
      walk_at "dd"
      refine q_meth ⟨_, isI_ptr h.o, T.cl_Table, T.m_Table_put, rfl⟩ ?_
      walk_at "dd"
      exact (ok_put3 T h few rfl rfl (p'.to i1 i2)).mono (Nat.le_of_ble_eq_true rfl)
    | true =>
      walk_at "dd"
      refine i_neg (by omega) ?_
      walk_at "dd"
      refine i_neg (by omega) ?_
      walk_at "dd"
      refine q_meth ⟨_, isI_ptr h.o, T.cl_Table, T.m_Table_put, rfl⟩ ?_
      walk_at "dd"
      exact (ok_put T h few rfl rfl (p'.to i1 i2)).mono (Nat.le_of_ble_eq_true rfl)
  · walk_at "dd"
    refine i_two (fun c2 => ?_) fun c2 => ?_
    · walk_at "dd"
      refine q_meth ⟨_, isI_ptr h.o, T.cl_Table, T.m_Table_put, rfl⟩ ?_
      walk_at "dd"
      exact (ok_putG T (bm_keyD (ps := ["self", "key", "rank", "marked"]) (Classical.choose_spec T.d_Table_put) 1 ["marked", "rank", "key"] [(true, 2), (true, 1), (true, 0)]  1 rfl (List.cons_ne_nil _ _) (by decide) rfl (by decide) (fun _ _ _ _ _ _ _ us its ws l1 l2 l3 => match us, its, ws, l1, l2, l3 with | [_], [_], [_, _, _], _, _, _ => ⟨_, rfl, rfl⟩) (fun _ => (.cons (.bl _) .nil))) ⟨rfl, rfl⟩ rfl h few rfl rfl (p'.to i1 i2)).mono (Nat.le_of_ble_eq_true rfl)
    · walk_at "dd"
      refine i_two (fun c3 => ?_) fun c3 => ?_
      · walk_at "dd"
        refine q_meth ⟨_, isI_ptr h.o, T.cl_Table, T.m_Table_put, rfl⟩ ?_
        walk_at "dd"
        exact (ok_putG T (bm_keyD (ps := ["self", "key", "rank", "marked"]) (Classical.choose_spec T.d_Table_put) 3 ["marked"] [(true, 0)]  1 rfl (List.cons_ne_nil _ _) (by decide) rfl (by decide) (fun _ _ _ _ _ _ _ us its ws l1 l2 l3 => match us, its, ws, l1, l2, l3 with | [_, _, _], [_], [_], _, _, _ => ⟨_, rfl, rfl⟩) (fun _ => (.cons (.bl _) .nil))) ⟨rfl, rfl⟩ rfl h few rfl rfl (p'.to i1 i2)).mono (Nat.le_of_ble_eq_true rfl)
      · walk_at "dd"
        refine q_meth ⟨_, isI_ptr h.o, T.cl_Table, T.m_Table_put, rfl⟩ ?_
        walk_at "dd"
        exact (ok_put T h few rfl rfl (p'.to i1 i2)).mono (Nat.le_of_ble_eq_true rfl)
end Toy

set_option Elab.async false
set_option linter.all false
set_option maxRecDepth 100000
set_option maxHeartbeats 1000000
namespace Toy
open PySem PySem.Spec PyProof.Rows L2 My Dt SX
local macro_rules | `(tactic| walk_at "rg") => `(tactic| first
  | omega
  | ((refine And.intro ?_ (And.intro ?_ (And.intro ?_ ?_))) <;> omega))
local macro_rules | `(tactic| walk_at "ls") => `(tactic| first
  | with_reducible exact ls_v
  | with_reducible exact ls_b
  | ((with_reducible refine' ls_p ?hlp); (case hlp => with_reducible assumption)))
local macro_rules | `(tactic| walk_at "start") => `(tactic| ((simp only [startM, startS, List.map_cons, List.map_nil, List.length_cons, List.length_nil, List.cons_append, List.nil_append, Nat.reduceAdd, Nat.reduceSub, List.replicate_succ, List.replicate_zero]); exact rfl))
local macro_rules | `(tactic| walk_at "set") => `(tactic| first
  | ((dsimp only [Int.reduceToNat, List.set_cons_zero, List.set_cons_succ, VO.sl]); done)
  | ((dsimp only [Int.reduceToNat, List.set_cons_zero, List.set_cons_succ, VO.sl]); exact rfl)
  | exact rfl)
local macro_rules | `(tactic| walk_at "sz") => `(tactic| first
  | exact sz_of (Nat.le_of_ble_eq_true rfl)
  | (apply sz_of; simp only [List.length_cons, List.length_nil, List.length_append, List.length_map]; omega))
local macro_rules | `(tactic| walk_at "side") => `(tactic| first
  | with_reducible assumption
  | omega
  | exact ml (by omega) (by omega)
  | exact mr (by omega) (by omega)
  | exact dv (by omega) (by omega)
  | exact Bd.mulOk (by with_reducible assumption) (by with_reducible assumption) (by decide) (by decide) (by decide)
  | exact Bd.div (by with_reducible assumption) (by omega) (by decide) (by decide)
  | (show (0 : Int) < _; omega)
  | exact ⟨by decide, by decide, by decide⟩
  | decide
  | exact rfl)
local macro_rules | `(tactic| walk_at "st") => `(tactic| first
  | with_reducible refine q_seq ?_
  | with_reducible refine q_end ?_
  | with_reducible refine q_nil ?_
  | with_reducible refine q_asg ?_
  | with_reducible refine q_asg2 ?_
  | with_reducible refine q_ret ?_
  | with_reducible refine q_if ?_
  | with_reducible refine q_expr ?_
  | with_reducible refine q_retN ?_
  | with_reducible refine q_sub ?_
  | with_reducible refine q_for ?_
  | with_reducible refine q_del ?_
  | with_reducible refine q_par ?_
  | with_reducible refine q_par3 ?_
  | with_reducible refine q_parV ?_
  | with_reducible refine q_parV3 ?_
  | with_reducible refine q_asgF ?_
  | with_reducible refine q_asgC ?_
  | ((with_reducible refine' q_frz ?ef ?_); (case ef => exact rfl))
  | ((with_reducible refine' q_app ?ea ?eb ?_); (case ea => exact rfl); (case eb => walk_at "slen"))
  | with_reducible refine q_brk ?_
  | with_reducible refine q_cnt ?_
  | with_reducible refine q_fldS ?_
  | with_reducible refine q_fldP ?_
  | with_reducible refine q_raise ?_
  | with_reducible refine q_try ?_)
local macro_rules | `(tactic| walk_at "slen") => `(tactic| first
  | with_reducible assumption
  | ((rw [sizeLine_eq]); (simp only [List.length_cons, List.length_nil, List.length_append, List.length_map]); omega))
local macro_rules | `(tactic| walk_at "sm") => `(tactic| first
  | with_reducible refine s_add ?_
  | with_reducible refine s_sub ?_
  | ((with_reducible refine' s_mul ?hm ?_); (case hm => walk_at "side"))
  | ((with_reducible refine' s_fdiv ?hm ?_); (case hm => walk_at "side"))
  | ((with_reducible refine' s_mod ?hm ?_); (case hm => walk_at "side"))
  | with_reducible refine s_neg ?_
  | ((with_reducible refine' s_pow ?hm ?_); (case hm => walk_at "side"))
  | ((with_reducible refine' s_ixL ?hl ?he ?_); (case hl => walk_at "ls"); (case he => exact rfl))
  | ((with_reducible refine' s_ixT ?he ?_); (case he => exact rfl))
  | ((with_reducible refine' set_L2 ?ha ?hb ?hc ?_); (case ha => with_reducible assumption); (case hb => exact rfl); (case hc => walk_at "set"))
  | with_reducible refine s_addB ?_
  | with_reducible refine s_lt ?_
  | with_reducible refine s_le ?_
  | with_reducible refine s_gt ?_
  | with_reducible refine s_ge ?_
  | with_reducible refine s_eq ?_
  | with_reducible refine s_ne ?_
  | ((with_reducible refine' s_neSame ?he ?_); (case he => with_reducible rfl))
  | ((with_reducible refine' s_eqSame ?he ?_); (case he => with_reducible rfl))
  | with_reducible refine s_eqS ?_
  | with_reducible refine s_neS ?_
  | with_reducible refine s_isN ?_
  | with_reducible refine s_isNotN ?_
  | with_reducible refine t_bl ?_)
local macro_rules | `(tactic| walk_at "cl") => `(tactic| first
  | with_reducible refine c_int ?_
  | with_reducible refine c_intB ?_
  | with_reducible refine c_abs ?_
  | ((with_reducible refine' c_max ?hm ?_); (case hm => exact rfl))
  | ((with_reducible refine' c_min ?hm ?_); (case hm => exact rfl))
  | ((with_reducible refine' c_divmod ?hm ?_); (case hm => walk_at "side"))
  | ((with_reducible refine' c_len ?hm ?_); (case hm => walk_at "sq"))
  | ((with_reducible refine' c_list ?hm ?_); (case hm => walk_at "sq"))
  | ((with_reducible refine' c_tuple ?hm ?_); (case hm => walk_at "sq")))
local macro_rules | `(tactic| walk_at "sq") => `(tactic| first
  | exact sqL
  | exact sqT
  | exact sqB
  | exact sqP (by with_reducible assumption))
local macro_rules | `(tactic| walk_at "v") => `(tactic| first
  | ((with_reducible refine' v_sh ?ev ?_); (case ev => exact rfl))
  | ((with_reducible refine' v_ol ?ev ?_); (case ev => exact rfl))
  | ((with_reducible refine' v_slf ?ev ?_); (case ev => exact rfl))
  | with_reducible refine q_val ?_
  | ((with_reducible refine' q_walk ?ew ?_); (case ew => exact rfl))
  | ((with_reducible refine' q_rng1 ?ej ?ek ?_); (case ej => walk_at "rg"); (case ek => walk_at "rg"))
  | ((with_reducible refine' q_rng2 ?ej ?_); (case ej => walk_at "rg"))
  | with_reducible refine q_rngL ?_
  | with_reducible refine q_solc ?_
  | with_reducible refine q_sol0 ?_
  | ((with_reducible refine' q_gname ?eg ?_); (case eg => walk_at "set"))
  | ((with_reducible refine' n_set ?eg ?_); (case eg => walk_at "set"))
  | ((with_reducible refine' n_set2 ?eg ?_); (case eg => walk_at "set"))
  | ((with_reducible refine' n_set3 ?eg ?_); (case eg => walk_at "set"))
  | with_reducible refine q_two ?_
  | with_reducible refine q_three ?_
  | with_reducible refine q_vv ?_
  | with_reducible refine q_isS ?_
  | with_reducible refine q_isL ?_
  | with_reducible refine q_twoV ?_
  | with_reducible refine q_threeV ?_
  | with_reducible refine q_bl ?_
  | with_reducible refine q_oint ?_
  | ((with_reducible refine' q_gtup ?el ?_); (case el => exact rfl))
  | with_reducible refine q_gcons ?_
  | with_reducible refine q_gnil ?_
  | with_reducible refine i_t ?_
  | with_reducible refine i_f ?_
  | with_reducible refine i_nt ?_
  | with_reducible refine i_nf ?_
  | ((with_reducible refine' n_t ?en ?_); (case en => exact rfl))
  | ((with_reducible refine' n_f ?en ?_); (case en => exact rfl))
  | ((with_reducible refine' nn_t ?en ?_); (case en => exact rfl))
  | ((with_reducible refine' nn_f ?en ?_); (case en => exact rfl))
  | with_reducible refine And.intro (by walk_at "sz") ?_)
local macro_rules | `(tactic| walk_at "d") => `(tactic| first
  | walk_at "v"
  | walk_at "st"
  | walk_at "sm"
  | walk_at "cl"
  | walk_at "at")
local macro_rules | `(tactic| walk_at "dd") => `(tactic| repeat walk_at "d")
local macro_rules | `(tactic| walk_at "tx") => `(tactic| simp only [l_dash, l_dot, l_nil, l_space, l_figs, l_signs])

variable {P : Program} {w : World} {K : PySem.W.Frag} {mg : Str → Option Value} {base : Heap} {S : Sto} {Ex : XS} {Q : QO}

/-- a table as it should be, its ranks too -/
structure WT (c : Tab) : Prop where
  wt : Wt c
  kr : KR c.kvs
theorem put_kvs {c : Tab} {i r : Int} {b : Bool} (g : getE c.kvs i = none) : (c.put i r b).kvs = c.kvs ++ [(i, (r, b, c.writes + 1))] := (put_drop (e := (r, b, c.writes + 1)) g).2.2
theorem WT.put {c : Tab} (h : WT c) {i r : Int} {b : Bool} (g : getE c.kvs i = none) (hk : hasRank c.kvs r = false) (i0 : 0 ≤ i) (i1 : i ≤ 1000000000) (r0 : -1000000000 ≤ r) (r1 : r ≤ 1000000000) (few : c.kvs.length < 100) : WT (c.put i r b) := by
  have e := put_kvs (r := r) (b := b) g
  have g' := getE_none.mp g
  rw [hasRank_mem] at hk
  have hk' := of_decide_eq_false hk
  have kr : KR (c.put i r b).kvs := by
    rw [e]
    intro x hx
    rcases List.mem_append.mp hx with y | y
    · exact h.kr x y
    · rw [List.mem_singleton.mp y]
      exact ⟨⟨i0, i1⟩, r0, r1⟩
  refine ⟨⟨?_, ?_, fun x hx => (kr x hx).1, ?_, ?_, ?_⟩, kr⟩
  · rw [e, List.map_append]
    refine List.nodup_append.mpr ⟨h.wt.nd, by simp, fun x hx y hy => ?_⟩
    rw [List.mem_singleton.mp hy]
    rintro rfl
    exact g' hx
  · rw [e, List.map_append]
    refine List.nodup_append.mpr ⟨h.wt.rk, by simp, fun x hx y hy => ?_⟩
    rw [List.mem_singleton.mp hy]
    rintro rfl
    exact hk' hx
  · rw [e, List.length_append]
    exact few
  · rw [e, List.length_append]
    show c.size + 1 = _
    rw [h.wt.sz] <;> rfl
  · rw [e, List.filter_append, List.length_append]
    show c.marked + _ = _
    rw [h.wt.mks]
    cases b <;> rfl
theorem getE_split {kvs : List Ent} {i : Int} {e : Int × Bool × Int} (nd : (kvs.map (·.1)).Nodup) (g : getE kvs i = some e) : ∃ l1 l2, kvs = l1 ++ (i, e) :: l2 ∧ dropE kvs i = l1 ++ l2 ∧ (∀ e2, putE kvs i e2 = l1 ++ (i, e2) :: l2) ∧ i ∉ l1.map (·.1) ∧ i ∉ l2.map (·.1) := by
  unfold getE at g
  obtain ⟨p, hp, ep⟩ := Option.map_eq_some_iff.mp g
  have pm := List.mem_of_find?_eq_some hp
  have pi : p.1 = i := by
    have z := List.find?_some hp
    exact of_decide_eq_true z
  obtain ⟨l1, l2, el⟩ := List.append_of_mem pm
  have ep' : p = (i, e) := by rw [← pi, ← ep]
  rw [ep'] at el
  subst el
  rw [List.map_append, List.map_cons] at nd
  have nd' := List.nodup_append.mp nd
  have n1 : i ∉ l1.map (·.1) := fun z => nd'.2.2 _ z _ (.head _) rfl
  have n2 : i ∉ l2.map (·.1) := (List.nodup_cons.mp nd'.2.1).1
  have a1 : ∀ x ∈ l1, x.1 ≠ i := fun x hx z => n1 (List.mem_map.mpr ⟨x, hx, z⟩)
  have a2 : ∀ x ∈ l2, x.1 ≠ i := fun x hx z => n2 (List.mem_map.mpr ⟨x, hx, z⟩)
  refine ⟨l1, l2, rfl, ?_, fun e2 => ?_, n1, n2⟩
  · unfold dropE
    rw [List.filter_append, List.filter_cons, if_neg (by simp), List.filter_eq_self.mpr fun x hx => decide_eq_true (a1 x hx), List.filter_eq_self.mpr fun x hx => decide_eq_true (a2 x hx)]
  · unfold putE
    rw [if_pos (List.any_eq_true.mpr ⟨(i, e), List.mem_append.mpr (.inr (.head _)), decide_eq_true rfl⟩), List.map_append, List.map_cons]
    have m1 : ∀ l : List Ent, (∀ x ∈ l, x.1 ≠ i) → l.map (fun p => if p.1 = i then (p.1, e2) else p) = l := fun l hl => (List.map_congr_left (g := id) fun x hx => if_neg (hl x hx)).trans (List.map_id l)
    rw [m1 l1 a1, m1 l2 a2, if_pos rfl]
theorem WT.drop {c : Tab} (h : WT c) {i : Int} {e : Int × Bool × Int} (g : getE c.kvs i = some e) : WT (c.drop i e) := by
  obtain ⟨l1, l2, e1, e2, _, _⟩ := getE_split h.wt.nd g
  have ek : (c.drop i e).kvs = l1 ++ l2 := e2
  have sub : (l1 ++ l2).Sublist c.kvs := by rw [e1]; exact (List.Sublist.refl _).append (List.sublist_cons_self _ _)
  have kr : KR (c.drop i e).kvs := by rw [ek]; exact fun x hx => h.kr x (sub.subset hx)
  refine ⟨⟨?_, ?_, fun x hx => (kr x hx).1, ?_, ?_, ?_⟩, kr⟩
  · rw [ek]; exact (sub.map _).nodup h.wt.nd
  · rw [ek]; exact (sub.map _).nodup h.wt.rk
  · rw [ek]; exact Nat.le_trans sub.length_le h.wt.few
  · rw [ek]
    show c.size - 1 = _
    rw [h.wt.sz, e1, List.length_append, List.length_append, List.length_cons]
    omega
  · rw [ek]
    show c.marked - _ = _
    rw [h.wt.mks, e1, List.filter_append, List.filter_append, List.filter_cons, List.length_append, List.length_append]
    dsimp only
    cases e.2.1 <;> simp <;> omega
theorem WT.change {c : Tab} (h : WT c) {i : Int} {e : Int × Bool × Int} {b : Bool} (g : getE c.kvs i = some e) : WT (c.change i e b) ∧ (c.change i e b).kvs.length = c.kvs.length := by
  obtain ⟨l1, l2, e1, _, e3, _⟩ := getE_split h.wt.nd g
  have ek : (c.change i e b).kvs = l1 ++ (i, (e.1, b, c.writes + 1)) :: l2 := e3 _
  have kr : KR (c.change i e b).kvs := by
    rw [ek]
    intro x hx
    have h1 := h.kr (i, e) (by rw [e1]; exact List.mem_append.mpr (.inr (.head _)))
    rcases List.mem_append.mp hx with y | y
    · exact h.kr x (by rw [e1]; exact List.mem_append.mpr (.inl y))
    · rcases List.mem_cons.mp y with y | y
      · rw [y]; exact h1
      · exact h.kr x (by rw [e1]; exact List.mem_append.mpr (.inr (.tail _ y)))
  have ln : (c.change i e b).kvs.length = c.kvs.length := by rw [ek, e1, List.length_append, List.length_append, List.length_cons, List.length_cons]
  refine ⟨⟨⟨?_, ?_, fun x hx => (kr x hx).1, by rw [ln]; exact h.wt.few, by rw [ln]; exact h.wt.sz, ?_⟩, kr⟩, ln⟩
  · have := h.wt.nd
    rw [e1, List.map_append, List.map_cons] at this
    rw [ek, List.map_append, List.map_cons]
    exact this
  · have := h.wt.rk
    rw [e1, List.map_append, List.map_cons] at this
    rw [ek, List.map_append, List.map_cons]
    exact this
  · rw [ek]
    show c.marked - _ + _ = _
    rw [h.wt.mks, e1, List.filter_append, List.filter_append, List.filter_cons, List.filter_cons, List.length_append, List.length_append]
    dsimp only
    cases e.2.1 <;> cases b <;> simp <;> omega
end Toy

set_option Elab.async false
set_option linter.all false
set_option maxRecDepth 100000
set_option maxHeartbeats 1000000
namespace Toy
open PySem PySem.Spec PyProof.Rows L2 My Dt SX
local macro_rules | `(tactic| walk_at "rg") => `(tactic| first
  | omega
  | ((refine And.intro ?_ (And.intro ?_ (And.intro ?_ ?_))) <;> omega))
local macro_rules | `(tactic| walk_at "ls") => `(tactic| first
  | with_reducible exact ls_v
  | with_reducible exact ls_b
  | ((with_reducible refine' ls_p ?hlp); (case hlp => with_reducible assumption)))
local macro_rules | `(tactic| walk_at "start") => `(tactic| ((simp only [startM, startS, List.map_cons, List.map_nil, List.length_cons, List.length_nil, List.cons_append, List.nil_append, Nat.reduceAdd, Nat.reduceSub, List.replicate_succ, List.replicate_zero]); exact rfl))
local macro_rules | `(tactic| walk_at "set") => `(tactic| first
  | ((dsimp only [Int.reduceToNat, List.set_cons_zero, List.set_cons_succ, VO.sl]); done)
  | ((dsimp only [Int.reduceToNat, List.set_cons_zero, List.set_cons_succ, VO.sl]); exact rfl)
  | exact rfl)
local macro_rules | `(tactic| walk_at "sz") => `(tactic| first
  | exact sz_of (Nat.le_of_ble_eq_true rfl)
  | (apply sz_of; simp only [List.length_cons, List.length_nil, List.length_append, List.length_map]; omega))
local macro_rules | `(tactic| walk_at "side") => `(tactic| first
  | with_reducible assumption
  | omega
  | exact ml (by omega) (by omega)
  | exact mr (by omega) (by omega)
  | exact dv (by omega) (by omega)
  | exact Bd.mulOk (by with_reducible assumption) (by with_reducible assumption) (by decide) (by decide) (by decide)
  | exact Bd.div (by with_reducible assumption) (by omega) (by decide) (by decide)
  | (show (0 : Int) < _; omega)
  | exact ⟨by decide, by decide, by decide⟩
  | decide
  | exact rfl)
local macro_rules | `(tactic| walk_at "st") => `(tactic| first
  | with_reducible refine q_seq ?_
  | with_reducible refine q_end ?_
  | with_reducible refine q_nil ?_
  | with_reducible refine q_asg ?_
  | with_reducible refine q_asg2 ?_
  | with_reducible refine q_ret ?_
  | with_reducible refine q_if ?_
  | with_reducible refine q_expr ?_
  | with_reducible refine q_retN ?_
  | with_reducible refine q_sub ?_
  | with_reducible refine q_for ?_
  | with_reducible refine q_del ?_
  | with_reducible refine q_par ?_
  | with_reducible refine q_par3 ?_
  | with_reducible refine q_parV ?_
  | with_reducible refine q_parV3 ?_
  | with_reducible refine q_asgF ?_
  | with_reducible refine q_asgC ?_
  | ((with_reducible refine' q_frz ?ef ?_); (case ef => exact rfl))
  | ((with_reducible refine' q_app ?ea ?eb ?_); (case ea => exact rfl); (case eb => walk_at "slen"))
  | with_reducible refine q_brk ?_
  | with_reducible refine q_cnt ?_
  | with_reducible refine q_fldS ?_
  | with_reducible refine q_fldP ?_
  | with_reducible refine q_raise ?_
  | with_reducible refine q_try ?_)
local macro_rules | `(tactic| walk_at "slen") => `(tactic| first
  | with_reducible assumption
  | ((rw [sizeLine_eq]); (simp only [List.length_cons, List.length_nil, List.length_append, List.length_map]); omega))
local macro_rules | `(tactic| walk_at "sm") => `(tactic| first
  | with_reducible refine s_add ?_
  | with_reducible refine s_sub ?_
  | ((with_reducible refine' s_mul ?hm ?_); (case hm => walk_at "side"))
  | ((with_reducible refine' s_fdiv ?hm ?_); (case hm => walk_at "side"))
  | ((with_reducible refine' s_mod ?hm ?_); (case hm => walk_at "side"))
  | with_reducible refine s_neg ?_
  | ((with_reducible refine' s_pow ?hm ?_); (case hm => walk_at "side"))
  | ((with_reducible refine' s_ixL ?hl ?he ?_); (case hl => walk_at "ls"); (case he => exact rfl))
  | ((with_reducible refine' s_ixT ?he ?_); (case he => exact rfl))
  | ((with_reducible refine' set_L2 ?ha ?hb ?hc ?_); (case ha => with_reducible assumption); (case hb => exact rfl); (case hc => walk_at "set"))
  | with_reducible refine s_addB ?_
  | with_reducible refine s_lt ?_
  | with_reducible refine s_le ?_
  | with_reducible refine s_gt ?_
  | with_reducible refine s_ge ?_
  | with_reducible refine s_eq ?_
  | with_reducible refine s_ne ?_
  | ((with_reducible refine' s_neSame ?he ?_); (case he => with_reducible rfl))
  | ((with_reducible refine' s_eqSame ?he ?_); (case he => with_reducible rfl))
  | with_reducible refine s_eqS ?_
  | with_reducible refine s_neS ?_
  | with_reducible refine s_isN ?_
  | with_reducible refine s_isNotN ?_
  | with_reducible refine t_bl ?_)
local macro_rules | `(tactic| walk_at "cl") => `(tactic| first
  | with_reducible refine c_int ?_
  | with_reducible refine c_intB ?_
  | with_reducible refine c_abs ?_
  | ((with_reducible refine' c_max ?hm ?_); (case hm => exact rfl))
  | ((with_reducible refine' c_min ?hm ?_); (case hm => exact rfl))
  | ((with_reducible refine' c_divmod ?hm ?_); (case hm => walk_at "side"))
  | ((with_reducible refine' c_len ?hm ?_); (case hm => walk_at "sq"))
  | ((with_reducible refine' c_list ?hm ?_); (case hm => walk_at "sq"))
  | ((with_reducible refine' c_tuple ?hm ?_); (case hm => walk_at "sq")))
local macro_rules | `(tactic| walk_at "sq") => `(tactic| first
  | exact sqL
  | exact sqT
  | exact sqB
  | exact sqP (by with_reducible assumption))
local macro_rules | `(tactic| walk_at "v") => `(tactic| first
  | ((with_reducible refine' v_sh ?ev ?_); (case ev => exact rfl))
  | ((with_reducible refine' v_ol ?ev ?_); (case ev => exact rfl))
  | ((with_reducible refine' v_slf ?ev ?_); (case ev => exact rfl))
  | with_reducible refine q_val ?_
  | ((with_reducible refine' q_walk ?ew ?_); (case ew => exact rfl))
  | ((with_reducible refine' q_rng1 ?ej ?ek ?_); (case ej => walk_at "rg"); (case ek => walk_at "rg"))
  | ((with_reducible refine' q_rng2 ?ej ?_); (case ej => walk_at "rg"))
  | with_reducible refine q_rngL ?_
  | with_reducible refine q_solc ?_
  | with_reducible refine q_sol0 ?_
  | ((with_reducible refine' q_gname ?eg ?_); (case eg => walk_at "set"))
  | ((with_reducible refine' n_set ?eg ?_); (case eg => walk_at "set"))
  | ((with_reducible refine' n_set2 ?eg ?_); (case eg => walk_at "set"))
  | ((with_reducible refine' n_set3 ?eg ?_); (case eg => walk_at "set"))
  | with_reducible refine q_two ?_
  | with_reducible refine q_three ?_
  | with_reducible refine q_vv ?_
  | with_reducible refine q_isS ?_
  | with_reducible refine q_isL ?_
  | with_reducible refine q_twoV ?_
  | with_reducible refine q_threeV ?_
  | with_reducible refine q_bl ?_
  | with_reducible refine q_oint ?_
  | ((with_reducible refine' q_gtup ?el ?_); (case el => exact rfl))
  | with_reducible refine q_gcons ?_
  | with_reducible refine q_gnil ?_
  | with_reducible refine i_t ?_
  | with_reducible refine i_f ?_
  | with_reducible refine i_nt ?_
  | with_reducible refine i_nf ?_
  | ((with_reducible refine' n_t ?en ?_); (case en => exact rfl))
  | ((with_reducible refine' n_f ?en ?_); (case en => exact rfl))
  | ((with_reducible refine' nn_t ?en ?_); (case en => exact rfl))
  | ((with_reducible refine' nn_f ?en ?_); (case en => exact rfl))
  | with_reducible refine And.intro (by walk_at "sz") ?_)
local macro_rules | `(tactic| walk_at "d") => `(tactic| first
  | walk_at "v"
  | walk_at "st"
  | walk_at "sm"
  | walk_at "cl"
  | walk_at "at")
local macro_rules | `(tactic| walk_at "dd") => `(tactic| repeat walk_at "d")
local macro_rules | `(tactic| walk_at "tx") => `(tactic| simp only [l_dash, l_dot, l_nil, l_space, l_figs, l_signs])

variable {P : Program} {w : World} {K : PySem.W.Frag} {mg : Str → Option Value} {base : Heap} {S : Sto} {Ex : XS} {Q : QO}

theorem gv_key {i : Int} (h0 : -1000000000 ≤ i) (h1 : i ≤ 1000000000) : Gv (.int i) := gv_int (by omega) (by omega)
def eqK (i : Int) : D → D := fun x => match x with
  | .tup (.int k :: _) => .bl (decide (k = i))
  | _ => .non
def eqR (r : Int) : D → D := fun x => match x with
  | .tup (_ :: .int k :: _) => .bl (decide (k = r))
  | _ => .non
theorem lc_eqK {kvs : List Ent} {i : Int} : ((kvs.map rowE).filter fun _ => true).map (eqK i) = (kvs.map fun e => decide (e.1 = i)).map D.bl := by
  rw [List.filter_eq_self.mpr (fun _ _ => rfl), List.map_map, List.map_map] <;> rfl
theorem lc_eqR {kvs : List Ent} {i : Int} : ((kvs.map rowE).filter fun _ => true).map (eqR i) = (kvs.map fun e => decide (e.2.1 = i)).map D.bl := by
  rw [List.filter_eq_self.mpr (fun _ _ => rfl), List.map_map, List.map_map] <;> rfl
theorem any_eqK {kvs : List Ent} {i : Int} : (kvs.map fun e => decide (e.1 = i)).any id = (getE kvs i).isSome := by
  rw [getE_mem]
  cases c : (kvs.map fun e => decide (e.1 = i)).any id with
  | true =>
    obtain ⟨x, hx, z⟩ := List.any_eq_true.mp c
    obtain ⟨e, he, rfl⟩ := List.mem_map.mp hx
    exact (decide_eq_true (List.mem_map.mpr ⟨e, he, of_decide_eq_true z⟩)).symm
  | false =>
    refine (decide_eq_false fun z => ?_).symm
    obtain ⟨e, he, z⟩ := List.mem_map.mp z
    exact List.any_eq_false.mp c _ (List.mem_map.mpr ⟨e, he, rfl⟩) (decide_eq_true z)
theorem any_eqR {kvs : List Ent} {i : Int} : (kvs.map fun e => decide (e.2.1 = i)).any id = hasRank kvs i := by
  rw [List.any_map] <;> rfl
/-- what a step leaves -/
structure Stp (S : Sto) (n j m : Nat) (c : Tab) (S' : Sto) (c' : Tab) : Prop where
  h : HasT S' j m c'
  w : WT c'
  l : c'.kvs.length ≤ c.kvs.length + 1
  s : Strm S' n
  k : ∀ i x, i ≠ n → i ≠ j → i ≠ m → S[i]? = some x → S'[i]? = some x
theorem ok_put_step (T : Tx K mg) {n j m : Nat} {c : Tab} (h : Strm S n) (hc : HasT S j m c) (nj : j ≠ n) (nm : m ≠ n) (wt : WT c) (few : c.kvs.length < 100) {tb : Nat} {TBp : Addr} (TB : LamX.TabB base mg (He.codeOf K ("_law_put_step", none)) TBp) (gt : S[tb]? = some (.tbl TBp (lamQ "_law_put_step"))) (nt : tb ≠ n)
    (q : ∀ S' c', Stp S n j m c S' c' → Q (.v (.tup [rowsE c'.kvs, .bl true])) S') :
    sFun (bs P w K mg base) 11 (.ref (He.ga K "_law_put_step")) [] [.ptr n, .ptr j, rowsE c.kvs] [] S Ex Q := by
  refine' call_dc (B := bs P w K mg base) 10 (Classical.choose_spec T.d_law_put_step) sc_law_put_step rfl (bm_all (ps := ["_law_stream_here", "_law_table", "_law_rows"]) (Classical.choose_spec T.d_law_put_step) (fun _ _ _ _ _ _ us hl => match us, hl with | [_, _, _], _ => rfl)) (dss_cons (ds_asgS (de_tup (da_cons (de_tup (da_cons (de_call rfl rfl ⟨T.g_law_tag, (Classical.choose_spec T.d_law_tag).kp⟩ (da_cons (dv 0) da_nil)) (da_cons (de_call rfl rfl ⟨T.g_law_place, (Classical.choose_spec T.d_law_place).kp⟩ (da_cons (dv 0) da_nil)) (da_cons (de_cmp (de_call rfl rfl ⟨T.g_law_draw, (Classical.choose_spec T.d_law_draw).kp⟩ (da_cons (dv 0) (da_cons de_int da_nil))) de_int) da_nil)))) (da_cons (de_call rfl rfl ⟨T.g_law_draw, (Classical.choose_spec T.d_law_draw).kp⟩ (da_cons (dv 0) (da_cons de_int da_nil))) da_nil))) (dg_tup (n := 2) rfl (dgs_cons (dgn 3) (dgs_cons (dgn 4) dgs_nil))) (fun env h => by cases env; cases h; rfl)) (dss_cons (dst 5 (de_lamc (k := 8) (Nat.le_of_ble_eq_true rfl) rfl rfl T.g_law_caught (Classical.choose_spec T.d_law_caught) (bn_law_caught T) sc_law_caught TB (fun _ en h => axC_at (en := en) h) (show LamX.LamS (defScope s_law_put_step) _ from LamX.lamS_by (by decide +kernel)) (de_call rfl rfl ⟨T.g_law_put, (Classical.choose_spec T.d_law_put).kp⟩ (da_cons (dv 1) (da_cons (dv 3) (da_cons (dv 4) da_nil)))) (fun A => (caughtR (k := 8) T).2 A))) (dss_cons (ds_if (dt_val (de_callB (id := "any") rfl T.f_any (by decide +kernel) (da_cons (DF.de (df_lc (own := [("_law_old", 6)]) rfl (by decide) (di_val (dv 2)) (blkOk_by (N := ["_law_stream_here", "_law_table", "_law_rows", "_law_row", "_law_how", "_law_told", "_law_old"]) (sc := defScope s_law_put_step) (by decide +kernel)) (dgn 6) dts_nil (de_cmp (de_ix (dv 6) de_int (fun _ _ => rfl)) (de_ix (dv 3) de_int (fun _ _ => rfl))))) da_nil))) (dss_one (ds_ret (de_tup (da_cons (dv 2) (da_cons (de_cmp (dv 5) (de_tup (da_cons de_str (da_cons (de_callB (id := "repr") rfl T.f_repr (by decide +kernel) (da_cons (de_ix (dv 3) de_int (fun _ _ => rfl)) da_nil)) da_nil)))) da_nil))))) dss_nil) (dss_cons (ds_if (dt_val (de_callB (id := "any") rfl T.f_any (by decide +kernel) (da_cons (DF.de (df_lc (own := [("_law_old", 6)]) rfl (by decide) (di_val (dv 2)) (blkOk_by (N := ["_law_stream_here", "_law_table", "_law_rows", "_law_row", "_law_how", "_law_told", "_law_old"]) (sc := defScope s_law_put_step) (by decide +kernel)) (dgn 6) dts_nil (de_cmp (de_ix (dv 6) de_int (fun _ _ => rfl)) (de_ix (dv 3) de_int (fun _ _ => rfl))))) da_nil))) (dss_one (ds_ret (de_tup (da_cons (dv 2) (da_cons (de_cmp (dv 5) (de_tup (da_cons de_str (da_cons (de_callB (id := "repr") rfl T.f_repr (by decide +kernel) (da_cons (de_ix (dv 3) de_int (fun _ _ => rfl)) da_nil)) da_nil)))) da_nil))))) dss_nil) (dss_one (ds_ret (de_tup (da_cons (de_bin (dv 2) (de_lstV (da_cons (dv 3) da_nil))) (da_cons (de_cmp (dv 5) (de_tup (da_cons de_str (da_cons de_str da_nil)))) da_nil))))))))) ⟨rfl, rfl⟩ ?st ?_
  case st => walk_at "start"
  walk_at "dd"
  refine (ok_tag T h fun i S1 i0 i1 h1 b1 => ?_).mono (Nat.le_of_ble_eq_true rfl)
  walk_at "dd"
  refine (ok_place T h1 fun r S2 r0 r1 h2 b2 => ?_).mono (Nat.le_of_ble_eq_true rfl)
  walk_at "dd"
  refine (ok_draw T h2 (by decide) (by decide) fun v S3 v0 v1 h3 b3 => ?_).mono (Nat.le_of_ble_eq_true rfl)
  walk_at "dd"
  refine (ok_draw T h3 (by decide) (by decide) fun how S4 w0 w1 h4 b4 => ?_).mono (Nat.le_of_ble_eq_true rfl)
  have b4 := ((b1.trans b2).trans b3).trans b4
  clear h1 h2 h3 b1 b2 b3
  generalize decide (v = 1) = mk
  walk_at "dd"
  have hc4 : HasT S4 j m c := ⟨(b4.at_ _ nj).trans hc.o, (b4.at_ _ nm).trans hc.d⟩
  have k4 : ∀ i x, i ≠ n → i ≠ j → i ≠ m → S[i]? = some x → S4[i]? = some x := fun i x hi _ _ e => (b4.at_ _ hi).trans e
  have stay : Stp S n j m c S4 c := ⟨hc4, wt, Nat.le_succ _, h4, k4⟩
  refine ⟨⟨tb, (b4.at_ _ nt).trans gt⟩, fun A hA => ok_caughtP T rfl (fun t S' => ((getE c.kvs i).isSome = true ∧ t = errS "KnownRow" (shY (.int i)) ∧ S' = S4) ∨ ((getE c.kvs i).isSome = false ∧ hasRank c.kvs r = true ∧ t = errS "SameRank" (shY (.int r)) ∧ S' = S4) ∨
    (getE c.kvs i = none ∧ hasRank c.kvs r = false ∧ t = toldS "None" ∧ HasT S' j m (c.put i r mk) ∧ Bt2 j m S4 S')) ?_ fun Ex' Q' hE hQ => ?_⟩
  rotate_left
  · rw [hA]
    walk_at "dd"
    refine (ok_lput T hc4 (by omega) (inR_i i0 i1) (inR_r r0 r1) ⟨fun S' g hk h2 b2 => ?_, fun e g => ?_, fun g hk => ?_⟩).mono (Nat.le_of_ble_eq_true rfl)
    · refine ⟨_, rfl, hQ _ _ gv_non.y (.inr (.inr ⟨g, hk, ?_, h2, b2⟩))⟩
      rw [shY_non]
    · exact hE _ _ _ _ .KnownRow (gv_key (by omega) i1).y (.inl ⟨by rw [g] <;> rfl, rfl, rfl⟩)
    · exact hE _ _ _ _ .SameRank (gv_key r0 r1).y (.inr (.inl ⟨by rw [g] <;> rfl, hk, rfl, rfl⟩))
  intro t S5 hcase
  walk_at "dd"
  refine lc_pure (fun _ => true) (eqK i) (by rw [List.length_map]; omega) (fun z hz X Y h1 h3 => ?_) ?_
  · obtain ⟨e, hp, rfl⟩ := List.mem_map.mp hz
    replace h1 : X (.v (.bl (decide (e.1 = i)))) _ := h1 rfl
    walk_at "dd"
    exact h1
  rw [lc_eqK]
  walk_at "dd"
  refine (show sCall _ _ (.builtin "any") [] [.v (.lst ((c.kvs.map fun (e : Ent) => decide (e.1 = i)).map .bl))] [] _ _ _ from ?_)
  refine c_any rfl ls_v ?_
  rw [any_eqK]
  rcases hcase with ⟨g, rfl, rfl⟩ | ⟨g, hk, rfl, rfl⟩ | ⟨g, hk, rfl, h5, b5⟩
  · rw [g]
    walk_at "dd"
    refine c_reprY (gv_key (by omega) i1).y ?_
    walk_at "dd"
    refine eq_two (two_err (asc_of (by decide)) (gv_key (by omega) i1).a) ?_
    walk_at "dd"
    exact q _ _ stay
  · rw [g]
    walk_at "dd"
    refine lc_pure (fun _ => true) (eqR r) (by rw [List.length_map]; omega) (fun z hz X Y h1 h3 => ?_) ?_
    · obtain ⟨e, hp, rfl⟩ := List.mem_map.mp hz
      replace h1 : X (.v (.bl (decide (e.2.1 = r)))) _ := h1 rfl
      walk_at "dd"
      exact h1
    rw [lc_eqR]
    walk_at "dd"
    refine (show sCall _ _ (.builtin "any") [] [.v (.lst ((c.kvs.map fun (e : Ent) => decide (e.2.1 = r)).map .bl))] [] _ _ _ from ?_)
    refine c_any rfl ls_v ?_
    rw [any_eqR, hk]
    walk_at "dd"
    refine c_reprY (gv_key r0 r1).y ?_
    walk_at "dd"
    refine eq_two (two_err (asc_of (by decide)) (gv_key r0 r1).a) ?_
    walk_at "dd"
    exact q _ _ stay
  · rw [g, show (none : Option (Int × Bool × Int)).isSome = false from rfl]
    walk_at "dd"
    refine lc_pure (fun _ => true) (eqR r) (by rw [List.length_map]; omega) (fun z hz X Y h1 h3 => ?_) ?_
    · obtain ⟨e, hp, rfl⟩ := List.mem_map.mp hz
      replace h1 : X (.v (.bl (decide (e.2.1 = r)))) _ := h1 rfl
      walk_at "dd"
      exact h1
    rw [lc_eqR]
    walk_at "dd"
    refine (show sCall _ _ (.builtin "any") [] [.v (.lst ((c.kvs.map fun (e : Ent) => decide (e.2.1 = r)).map .bl))] [] _ _ _ from ?_)
    refine c_any rfl ls_v ?_
    rw [any_eqR, hk]
    walk_at "dd"
    refine s_cat ls_v ls_v (by rw [sizeLine_eq, List.length_map]; show _ + 1 ≤ _; omega) (.inl ?_)
    walk_at "dd"
    refine eq_two (two_err (asc_of (by decide)) (asc_of (by decide))) ?_
    walk_at "dd"
    have fin := q S5 (c.put i r mk) ⟨h5, wt.put g hk i0 i1 r0 r1 few, by rw [put_kvs g, List.length_append]; exact Nat.le_refl _, h4.bt2 b5 nj nm, fun i x hi hj hm e => b5.ext (k4 i x hi hj hm e) hj hm⟩
    rw [put_kvs g, show rowsE (c.kvs ++ [(i, (r, mk, c.writes + 1))]) = .lst (c.kvs.map rowE ++ [.tup [.int i, .int r, .bl mk]]) by rw [rowsE, List.map_append] <;> rfl] at fin
    exact fin
end Toy

set_option Elab.async false
set_option linter.all false
set_option maxRecDepth 100000
set_option maxHeartbeats 1000000
namespace Toy
open PySem PySem.Spec PyProof.Rows L2 My Dt SX
local macro_rules | `(tactic| walk_at "rg") => `(tactic| first
  | omega
  | ((refine And.intro ?_ (And.intro ?_ (And.intro ?_ ?_))) <;> omega))
local macro_rules | `(tactic| walk_at "ls") => `(tactic| first
  | with_reducible exact ls_v
  | with_reducible exact ls_b
  | ((with_reducible refine' ls_p ?hlp); (case hlp => with_reducible assumption)))
local macro_rules | `(tactic| walk_at "start") => `(tactic| ((simp only [startM, startS, List.map_cons, List.map_nil, List.length_cons, List.length_nil, List.cons_append, List.nil_append, Nat.reduceAdd, Nat.reduceSub, List.replicate_succ, List.replicate_zero]); exact rfl))
local macro_rules | `(tactic| walk_at "set") => `(tactic| first
  | ((dsimp only [Int.reduceToNat, List.set_cons_zero, List.set_cons_succ, VO.sl]); done)
  | ((dsimp only [Int.reduceToNat, List.set_cons_zero, List.set_cons_succ, VO.sl]); exact rfl)
  | exact rfl)
local macro_rules | `(tactic| walk_at "sz") => `(tactic| first
  | exact sz_of (Nat.le_of_ble_eq_true rfl)
  | (apply sz_of; simp only [List.length_cons, List.length_nil, List.length_append, List.length_map]; omega))
local macro_rules | `(tactic| walk_at "side") => `(tactic| first
  | with_reducible assumption
  | omega
  | exact ml (by omega) (by omega)
  | exact mr (by omega) (by omega)
  | exact dv (by omega) (by omega)
  | exact Bd.mulOk (by with_reducible assumption) (by with_reducible assumption) (by decide) (by decide) (by decide)
  | exact Bd.div (by with_reducible assumption) (by omega) (by decide) (by decide)
  | (show (0 : Int) < _; omega)
  | exact ⟨by decide, by decide, by decide⟩
  | decide
  | exact rfl)
local macro_rules | `(tactic| walk_at "st") => `(tactic| first
  | with_reducible refine q_seq ?_
  | with_reducible refine q_end ?_
  | with_reducible refine q_nil ?_
  | with_reducible refine q_asg ?_
  | with_reducible refine q_asg2 ?_
  | with_reducible refine q_ret ?_
  | with_reducible refine q_if ?_
  | with_reducible refine q_expr ?_
  | with_reducible refine q_retN ?_
  | with_reducible refine q_sub ?_
  | with_reducible refine q_for ?_
  | with_reducible refine q_del ?_
  | with_reducible refine q_par ?_
  | with_reducible refine q_par3 ?_
  | with_reducible refine q_parV ?_
  | with_reducible refine q_parV3 ?_
  | with_reducible refine q_asgF ?_
  | with_reducible refine q_asgC ?_
  | ((with_reducible refine' q_frz ?ef ?_); (case ef => exact rfl))
  | ((with_reducible refine' q_app ?ea ?eb ?_); (case ea => exact rfl); (case eb => walk_at "slen"))
  | with_reducible refine q_brk ?_
  | with_reducible refine q_cnt ?_
  | with_reducible refine q_fldS ?_
  | with_reducible refine q_fldP ?_
  | with_reducible refine q_raise ?_
  | with_reducible refine q_try ?_)
local macro_rules | `(tactic| walk_at "slen") => `(tactic| first
  | with_reducible assumption
  | ((rw [sizeLine_eq]); (simp only [List.length_cons, List.length_nil, List.length_append, List.length_map]); omega))
local macro_rules | `(tactic| walk_at "sm") => `(tactic| first
  | with_reducible refine s_add ?_
  | with_reducible refine s_sub ?_
  | ((with_reducible refine' s_mul ?hm ?_); (case hm => walk_at "side"))
  | ((with_reducible refine' s_fdiv ?hm ?_); (case hm => walk_at "side"))
  | ((with_reducible refine' s_mod ?hm ?_); (case hm => walk_at "side"))
  | with_reducible refine s_neg ?_
  | ((with_reducible refine' s_pow ?hm ?_); (case hm => walk_at "side"))
  | ((with_reducible refine' s_ixL ?hl ?he ?_); (case hl => walk_at "ls"); (case he => exact rfl))
  | ((with_reducible refine' s_ixT ?he ?_); (case he => exact rfl))
  | ((with_reducible refine' set_L2 ?ha ?hb ?hc ?_); (case ha => with_reducible assumption); (case hb => exact rfl); (case hc => walk_at "set"))
  | with_reducible refine s_addB ?_
  | with_reducible refine s_lt ?_
  | with_reducible refine s_le ?_
  | with_reducible refine s_gt ?_
  | with_reducible refine s_ge ?_
  | with_reducible refine s_eq ?_
  | with_reducible refine s_ne ?_
  | ((with_reducible refine' s_neSame ?he ?_); (case he => with_reducible rfl))
  | ((with_reducible refine' s_eqSame ?he ?_); (case he => with_reducible rfl))
  | with_reducible refine s_eqS ?_
  | with_reducible refine s_neS ?_
  | with_reducible refine s_isN ?_
  | with_reducible refine s_isNotN ?_
  | with_reducible refine t_bl ?_)
local macro_rules | `(tactic| walk_at "cl") => `(tactic| first
  | with_reducible refine c_int ?_
  | with_reducible refine c_intB ?_
  | with_reducible refine c_abs ?_
  | ((with_reducible refine' c_max ?hm ?_); (case hm => exact rfl))
  | ((with_reducible refine' c_min ?hm ?_); (case hm => exact rfl))
  | ((with_reducible refine' c_divmod ?hm ?_); (case hm => walk_at "side"))
  | ((with_reducible refine' c_len ?hm ?_); (case hm => walk_at "sq"))
  | ((with_reducible refine' c_list ?hm ?_); (case hm => walk_at "sq"))
  | ((with_reducible refine' c_tuple ?hm ?_); (case hm => walk_at "sq")))
local macro_rules | `(tactic| walk_at "sq") => `(tactic| first
  | exact sqL
  | exact sqT
  | exact sqB
  | exact sqP (by with_reducible assumption))
local macro_rules | `(tactic| walk_at "v") => `(tactic| first
  | ((with_reducible refine' v_sh ?ev ?_); (case ev => exact rfl))
  | ((with_reducible refine' v_ol ?ev ?_); (case ev => exact rfl))
  | ((with_reducible refine' v_slf ?ev ?_); (case ev => exact rfl))
  | with_reducible refine q_val ?_
  | ((with_reducible refine' q_walk ?ew ?_); (case ew => exact rfl))
  | ((with_reducible refine' q_rng1 ?ej ?ek ?_); (case ej => walk_at "rg"); (case ek => walk_at "rg"))
  | ((with_reducible refine' q_rng2 ?ej ?_); (case ej => walk_at "rg"))
  | with_reducible refine q_rngL ?_
  | with_reducible refine q_solc ?_
  | with_reducible refine q_sol0 ?_
  | ((with_reducible refine' q_gname ?eg ?_); (case eg => walk_at "set"))
  | ((with_reducible refine' n_set ?eg ?_); (case eg => walk_at "set"))
  | ((with_reducible refine' n_set2 ?eg ?_); (case eg => walk_at "set"))
  | ((with_reducible refine' n_set3 ?eg ?_); (case eg => walk_at "set"))
  | with_reducible refine q_two ?_
  | with_reducible refine q_three ?_
  | with_reducible refine q_vv ?_
  | with_reducible refine q_isS ?_
  | with_reducible refine q_isL ?_
  | with_reducible refine q_twoV ?_
  | with_reducible refine q_threeV ?_
  | with_reducible refine q_bl ?_
  | with_reducible refine q_oint ?_
  | ((with_reducible refine' q_gtup ?el ?_); (case el => exact rfl))
  | with_reducible refine q_gcons ?_
  | with_reducible refine q_gnil ?_
  | with_reducible refine i_t ?_
  | with_reducible refine i_f ?_
  | with_reducible refine i_nt ?_
  | with_reducible refine i_nf ?_
  | ((with_reducible refine' n_t ?en ?_); (case en => exact rfl))
  | ((with_reducible refine' n_f ?en ?_); (case en => exact rfl))
  | ((with_reducible refine' nn_t ?en ?_); (case en => exact rfl))
  | ((with_reducible refine' nn_f ?en ?_); (case en => exact rfl))
  | with_reducible refine And.intro (by walk_at "sz") ?_)
local macro_rules | `(tactic| walk_at "d") => `(tactic| first
  | walk_at "v"
  | walk_at "st"
  | walk_at "sm"
  | walk_at "cl"
  | walk_at "at")
local macro_rules | `(tactic| walk_at "dd") => `(tactic| repeat walk_at "d")
local macro_rules | `(tactic| walk_at "tx") => `(tactic| simp only [l_dash, l_dot, l_nil, l_space, l_figs, l_signs])

variable {P : Program} {w : World} {K : PySem.W.Frag} {mg : Str → Option Value} {base : Heap} {S : Sto} {Ex : XS} {Q : QO}

def neK (i : Int) : D → D := fun x => match x with
  | .tup (.int k :: _) => .bl (!decide (k = i))
  | _ => .non
def neB (i : Int) : D → Bool := fun x => match x with
  | .tup (.int k :: _) => !decide (k = i)
  | _ => false
def chK (i : Int) (b : Bool) : D → D := fun x => match x with
  | .tup [.int k, r, m] => if k = i then .tup [.int k, r, .bl b] else .tup [.int k, r, m]
  | _ => .non
theorem lc_neK {kvs : List Ent} {i : Int} : ((kvs.map rowE).filter fun _ => true).map (neK i) = (kvs.map fun e => !decide (e.1 = i)).map D.bl := by
  rw [List.filter_eq_self.mpr (fun _ _ => rfl), List.map_map, List.map_map] <;> rfl
theorem all_neK {kvs : List Ent} {i : Int} : (kvs.map fun e => !decide (e.1 = i)).all id = !(getE kvs i).isSome := by
  rw [← any_eqK]
  induction kvs with
  | nil => rfl
  | cons e r ih =>
    rw [List.map_cons, List.map_cons, List.all_cons, List.any_cons, ih, Bool.not_or] <;> rfl
theorem lc_drop {kvs : List Ent} {i : Int} : ((kvs.map rowE).filter (neB i)).map id = (dropE kvs i).map rowE := by
  unfold dropE
  rw [List.map_id, List.filter_map]
  congr 1
  refine List.filter_congr fun e he => ?_
  show (!decide (e.1 = i)) = decide (e.1 ≠ i)
  rw [decide_not]
theorem lc_change {kvs : List Ent} {i : Int} {e : Int × Bool × Int} {b : Bool} {w : Int} (nd : (kvs.map (·.1)).Nodup) (g : getE kvs i = some e) : ((kvs.map rowE).filter fun _ => true).map (chK i b) = (putE kvs i (e.1, b, w)).map rowE := by
  obtain ⟨l1, l2, e1, _, e3, n1, n2⟩ := getE_split nd g
  rw [List.filter_eq_self.mpr (fun _ _ => rfl), e3, e1, List.map_append, List.map_append, List.map_append, List.map_cons, List.map_cons, List.map_cons]
  have m1 : ∀ l : List Ent, i ∉ l.map (·.1) → (l.map rowE).map (chK i b) = l.map rowE := fun l hl => by
    rw [List.map_map]
    refine List.map_congr_left fun x hx => ?_
    show (if x.1 = i then _ else _) = _
    rw [if_neg fun z => hl (List.mem_map.mpr ⟨x, hx, z⟩)]
  rw [m1 l1 n1, m1 l2 n2]
  congr 2
  show (if i = i then _ else _) = _
  rw [if_pos rfl]
theorem ok_step (T : Tx K mg) {n j m : Nat} {c : Tab} (h : Strm S n) (hc : HasT S j m c) (nj : j ≠ n) (nm : m ≠ n) (wt : WT c) (few : c.kvs.length < 100) {tb tp : Nat} {TBp TPp : Addr} (TP : LamX.TabB base mg (He.codeOf K ("_law_put_step", none)) TPp) (gt : S[tp]? = some (.tbl TPp (lamQ "_law_put_step"))) (nt : tp ≠ n)
    (TB : LamX.TabB base mg (He.codeOf K ("_law_step", none)) TBp) (gp : S[tb]? = some (.tbl TBp (lamQ "_law_step"))) (np : tb ≠ n) (q : ∀ S' c', Stp S n j m c S' c' → Q (.v (.tup [rowsE c'.kvs, .bl true])) S') :
    sFun (bs P w K mg base) 12 (.ref (He.ga K "_law_step")) [] [.ptr n, .ptr j, rowsE c.kvs] [] S Ex Q := by
  refine' call_dc (B := bs P w K mg base) 11 (Classical.choose_spec T.d_law_step) sc_law_step rfl (bm_all (ps := ["_law_stream_here", "_law_table", "_law_rows"]) (Classical.choose_spec T.d_law_step) (fun _ _ _ _ _ _ us hl => match us, hl with | [_, _, _], _ => rfl)) (dss_cons (dst 3 (de_call rfl rfl ⟨T.g_law_draw, (Classical.choose_spec T.d_law_draw).kp⟩ (da_cons (dv 0) (da_cons de_int da_nil)))) (dss_cons (ds_if (dt_cmp (dv 3) de_int) (dss_one (ds_ret (de_call rfl rfl ⟨T.g_law_put_step, (Classical.choose_spec T.d_law_put_step).kp⟩ (da_cons (dv 0) (da_cons (dv 1) (da_cons (dv 2) da_nil)))))) dss_nil) (dss_cons (ds_asgS (de_tup (da_cons (de_call rfl rfl ⟨T.g_law_old_tag, (Classical.choose_spec T.d_law_old_tag).kp⟩ (da_cons (dv 0) (da_cons (dv 2) da_nil))) (da_cons (de_cmp (de_call rfl rfl ⟨T.g_law_draw, (Classical.choose_spec T.d_law_draw).kp⟩ (da_cons (dv 0) (da_cons de_int da_nil))) de_int) da_nil))) (dg_tup (n := 2) rfl (dgs_cons (dgn 4) (dgs_cons (dgn 5) dgs_nil))) (fun env h => by cases env; cases h; rfl)) (dss_cons (ds_if (dt_cmp (dv 3) de_int) (dss_cons (dst 6 (de_lamc (k := 8) (Nat.le_of_ble_eq_true rfl) rfl rfl T.g_law_caught (Classical.choose_spec T.d_law_caught) (bn_law_caught T) sc_law_caught TB (fun _ en h => axC_at (en := en) h) (show LamX.LamS (defScope s_law_step) _ from LamX.lamS_by (by decide +kernel)) (de_if (dt_val (dv 5)) (de_mek0 (ks := ["key"]) rfl (dv 1) (dk_cons (dv 4) dk_nil)) (de_me rfl (dv 1) (da_cons (dv 4) da_nil))) (fun A => (caughtR (k := 8) T).2 A))) (dss_one (ds_setLc (i := 7) (own := [("_law_row", 8)]) rfl (by decide) rfl rfl (fun _ h => sw_true (by rw [h]; rfl) (by rw [h]; rfl) rfl (by decide +kernel)) (di_val (dv 2)) (blkOk_by (N := ["_law_stream_here", "_law_table", "_law_rows", "_law_way", "_law_tag_here", "_law_mark", "_law_told", "_law_later", "_law_row"]) (sc := defScope s_law_step) (by decide +kernel)) (dgn 8) (dts_one (dt_cmp (de_ix (dv 8) de_int (fun _ _ => rfl)) (dv 4))) (dv 8)))) (dss_cons (dst 6 (de_lamc (k := 8) (Nat.le_of_ble_eq_true rfl) rfl rfl T.g_law_caught (Classical.choose_spec T.d_law_caught) (bn_law_caught T) sc_law_caught TB (fun _ en h => axC_at (en := en) h) (show LamX.LamS (defScope s_law_step) _ from LamX.lamS_by (by decide +kernel)) (de_if (dt_cmp (dv 3) de_int) (de_mek0 (ks := ["key", "marked"]) rfl (dv 1) (dk_cons (dv 4) (dk_cons (dv 5) dk_nil))) (de_me rfl (dv 1) (da_cons (dv 4) (da_cons (dv 5) da_nil)))) (fun A => (caughtR (k := 8) T).2 A))) (dss_one (ds_setLc (i := 7) (own := [("_law_row", 8)]) rfl (by decide) rfl rfl (fun _ h => sw_true (by rw [h]; rfl) (by rw [h]; rfl) rfl (by decide +kernel)) (di_val (dv 2)) (blkOk_by (N := ["_law_stream_here", "_law_table", "_law_rows", "_law_way", "_law_tag_here", "_law_mark", "_law_told", "_law_later", "_law_row"]) (sc := defScope s_law_step) (by decide +kernel)) (dgn 8) dts_nil (de_if (dt_cmp (de_ix (dv 8) de_int (fun _ _ => rfl)) (dv 4)) (de_tup (da_cons (de_ix (dv 8) de_int (fun _ _ => rfl)) (da_cons (de_ix (dv 8) de_int (fun _ _ => rfl)) (da_cons (dv 5) da_nil)))) (dv 8)))))) (dss_frz 7 (dss_cons (ds_if (dt_val (de_callB (id := "all") rfl T.f_all (by decide +kernel) (da_cons (DF.de (df_lc (own := [("_law_row", 8)]) rfl (by decide) (di_val (dv 2)) (blkOk_by (N := ["_law_stream_here", "_law_table", "_law_rows", "_law_way", "_law_tag_here", "_law_mark", "_law_told", "_law_later", "_law_row"]) (sc := defScope s_law_step) (by decide +kernel)) (dgn 8) dts_nil (de_cmp (de_ix (dv 8) de_int (fun _ _ => rfl)) (dv 4)))) da_nil))) (dss_one (ds_ret (de_tup (da_cons (dv 2) (da_cons (de_cmp (dv 6) (de_tup (da_cons de_str (da_cons (de_callB (id := "repr") rfl T.f_repr (by decide +kernel) (da_cons (dv 4) da_nil)) da_nil)))) da_nil))))) dss_nil) (dss_one (ds_ret (de_tup (da_cons (dv 7) (da_cons (de_cmp (dv 6) (de_tup (da_cons de_str (da_cons de_str da_nil)))) da_nil))))))))))) ⟨rfl, rfl⟩ ?st ?_
  case st => walk_at "start"
  walk_at "dd"
  refine (ok_draw T h (by decide) (by decide) fun wy S1 w0 w1 h1 b1 => ?_).mono (Nat.le_of_ble_eq_true rfl)
  have get : ∀ {S' : Sto}, Bt n S S' → HasT S' j m c := fun b => ⟨(b.at_ _ nj).trans hc.o, (b.at_ _ nm).trans hc.d⟩
  walk_at "dd"
  refine i_two (fun c1 => ?_) fun c1 => ?_
  · walk_at "dd"
    refine (ok_put_step T h1 (get b1) nj nm wt few TP ((b1.at_ _ nt).trans gt) nt fun S' c' st => ?_).mono (Nat.le_of_ble_eq_true rfl)
    refine ⟨_, rfl, q _ _ { st with k := fun i x hi hj hm e => st.k i x hi hj hm ((b1.at_ _ hi).trans e) }⟩
  walk_at "dd"
  refine (ok_old_tag T h1 wt.wt.few wt.kr fun i S2 i0 i1 h2 b2 => ?_).mono (Nat.le_of_ble_eq_true rfl)
  walk_at "dd"
  refine (ok_draw T h2 (by decide) (by decide) fun v S3 v0 v1 h3 b3 => ?_).mono (Nat.le_of_ble_eq_true rfl)
  have b3 := (b1.trans b2).trans b3
  clear h1 h2 b1 b2
  walk_at "dd"
  generalize decide (v = 1) = mk
  have hc3 := get b3
  have gp3 := (b3.at_ _ np).trans gp
  have k3 : ∀ i x, i ≠ n → i ≠ j → i ≠ m → S[i]? = some x → S3[i]? = some x := fun i x hi _ _ e => (b3.at_ _ hi).trans e
  have gk := gv_key (i := i) (by omega) i1
  have fi := inR_i i0 i1
  have stay : Stp S n j m c S3 c := ⟨hc3, wt, Nat.le_succ _, h3, k3⟩
  refine j_S (α := D × List D) (fun a S' => (getE c.kvs i = none ∧ a.1 = errS "UnknownRow" (shY (.int i)) ∧ S' = S3) ∨ (∃ e c', getE c.kvs i = some e ∧ a.1 = toldS "None" ∧ a.2 = c'.kvs.map rowE ∧ Stp S n j m c S' c')) (fun a => [.sh (.ptr n), .sh (.ptr j), .sh (rowsE c.kvs), .sh (.int wy), .sh (.int i), .sh (.bl mk), .sh a.1, .ol a.2, .un]) ?_ (fun Nx k c1 => ?_) fun Nx k c1 => ?_
  rotate_left
  · walk_at "dd"
    refine ⟨⟨tb, gp3⟩, fun A hA => ok_caughtP T rfl (fun t S' => (getE c.kvs i = none ∧ t = errS "UnknownRow" (shY (.int i)) ∧ S' = S3) ∨ (∃ e, getE c.kvs i = some e ∧ t = toldS "None" ∧ HasT S' j m (c.drop i e) ∧ Bt2 j m S3 S')) ?_ fun Ex' Q' hE hQ => ?_⟩
    rotate_left
    · rw [hA]
      have dr : ∀ {ks : List Str} {ok : List D → List D → Prop} {ar : List D → List D → List D} {ds zs : List D} (bm : BindM (bs P w K mg base) (Classical.choose T.d_Table_drop) ["self", "key"] 0 ks ok ar) (hok : ok ds zs) (ea : ar ds zs = [.ptr j, .int i]),
          sFun (bs P w K mg base) 6 (.ref (He.ma K (He.ga K "Table") "drop")) ks ds zs S3 Ex' fun o S1 => ∃ d, o = .v d ∧ Q' (.v d) S1 := fun bm hok ea => ok_dropG T bm hok ea hc3 rfl (fun i' e S' ed _ g h4 b4 => by
            cases ed
            refine ⟨_, rfl, hQ _ _ gv_non.y (.inr ⟨e, g, ?_, h4, b4⟩)⟩
            rw [shY_non]) (fun r' => absurd (fi.symm.trans r') (by decide)) fun i' ed _ g => by
            cases ed
            exact hE _ _ _ _ .UnknownRow gk.y (.inl ⟨g, rfl, rfl⟩)
      walk_at "dd"
      cases mk with
      | true =>
        walk_at "dd"
        refine q_meth ⟨_, isI_ptr hc3.o, T.cl_Table, T.m_Table_drop, rfl⟩ ?_
        walk_at "dd"
        exact (dr (bm_key (ps := ["self", "key"]) (Classical.choose_spec T.d_Table_drop) 1 ["key"] [(true, 0)]  (by decide) rfl (by decide) (fun _ _ _ _ _ _ us ws l1 l2 => match us, ws, l1, l2 with | [_], [_], _, _ => rfl)) ⟨rfl, rfl⟩ rfl).mono (Nat.le_of_ble_eq_true rfl)
      | false =>
        walk_at "dd"
        refine q_meth ⟨_, isI_ptr hc3.o, T.cl_Table, T.m_Table_drop, rfl⟩ ?_
        walk_at "dd"
        exact (dr (bm_all (ps := ["self", "key"]) (Classical.choose_spec T.d_Table_drop) (fun _ _ _ _ _ _ us hl => match us, hl with | [_, _], _ => rfl)) ⟨rfl, rfl⟩ rfl).mono (Nat.le_of_ble_eq_true rfl)
    intro t S4 hcase
    walk_at "dd"
    refine lc_pure (neB i) id (by rw [List.length_map]; omega) (fun z hz X Y h1 h3 => ?_) ?_
    · obtain ⟨e, hp, rfl⟩ := List.mem_map.mp hz
      replace h1 : (!decide (e.1 = i)) = true → X (.v (rowE e)) S4 := h1
      replace h3 : (!decide (e.1 = i)) = false → Y S4 := h3
      walk_at "dd"
      generalize (!decide (e.1 = i)) = bb at h1 h3 ⊢
      cases bb with
      | true =>
        rw [if_pos rfl]
        walk_at "dd"
        exact h1 rfl
      | false =>
        rw [if_neg Bool.false_ne_true]
        exact h3 rfl
    rw [lc_drop]
    rcases hcase with ⟨g, rfl, rfl⟩ | ⟨e, g, rfl, h4, b4⟩
    · exact k (_, (dropE c.kvs i).map rowE) _ (.inl ⟨g, rfl, rfl⟩)
    · refine k (_, (dropE c.kvs i).map rowE) _ (.inr ⟨e, c.drop i e, g, rfl, rfl, ⟨h4, wt.drop g, ?_, h3.bt2 b4 nj nm, fun i x hi hj hm e => b4.ext (k3 i x hi hj hm e) hj hm⟩⟩)
      show (dropE c.kvs i).length ≤ _
      exact Nat.le_succ_of_le (List.length_filter_le _ _)
  · walk_at "dd"
    refine ⟨⟨tb, gp3⟩, fun A hA => ok_caughtP T rfl (fun t S' => (getE c.kvs i = none ∧ t = errS "UnknownRow" (shY (.int i)) ∧ S' = S3) ∨ (∃ e, getE c.kvs i = some e ∧ t = toldS "None" ∧ HasT S' j m (c.change i e mk) ∧ Bt2 j m S3 S')) ?_ fun Ex' Q' hE hQ => ?_⟩
    rotate_left
    · rw [hA]
      have dr : ∀ {ks : List Str} {ok : List D → List D → Prop} {ar : List D → List D → List D} {ds zs : List D} (bm : BindM (bs P w K mg base) (Classical.choose T.d_Table_change) ["self", "key", "marked"] 0 ks ok ar) (hok : ok ds zs) (ea : ar ds zs = [.ptr j, .int i, .bl mk]),
          sFun (bs P w K mg base) 6 (.ref (He.ma K (He.ga K "Table") "change")) ks ds zs S3 Ex' fun o S1 => ∃ d, o = .v d ∧ Q' (.v d) S1 := fun bm hok ea => ok_changeG T bm hok ea hc3 (by omega) rfl (fun i' e b S' ed eb _ g h4 b4 => by
            cases ed
            cases eb
            refine ⟨_, rfl, hQ _ _ gv_non.y (.inr ⟨e, g, ?_, h4, b4⟩)⟩
            rw [shY_non]) (fun r' => absurd (fi.symm.trans r') (by decide)) (fun i' ed _ g => by
            cases ed
            exact hE _ _ _ _ .UnknownRow gk.y (.inl ⟨g, rfl, rfl⟩)) fun _ _ _ _ _ nb => by cases nb
      walk_at "dd"
      refine i_two (fun c2 => ?_) fun c2 => ?_
      · walk_at "dd"
        refine q_meth ⟨_, isI_ptr hc3.o, T.cl_Table, T.m_Table_change, rfl⟩ ?_
        walk_at "dd"
        exact (dr (bm_key (ps := ["self", "key", "marked"]) (Classical.choose_spec T.d_Table_change) 1 ["key", "marked"] [(true, 0), (true, 1)]  (by decide) rfl (by decide) (fun _ _ _ _ _ _ us ws l1 l2 => match us, ws, l1, l2 with | [_], [_, _], _, _ => rfl)) ⟨rfl, rfl⟩ rfl).mono (Nat.le_of_ble_eq_true rfl)
      · walk_at "dd"
        refine q_meth ⟨_, isI_ptr hc3.o, T.cl_Table, T.m_Table_change, rfl⟩ ?_
        walk_at "dd"
        exact (dr (bm_all (ps := ["self", "key", "marked"]) (Classical.choose_spec T.d_Table_change) (fun _ _ _ _ _ _ us hl => match us, hl with | [_, _, _], _ => rfl)) ⟨rfl, rfl⟩ rfl).mono (Nat.le_of_ble_eq_true rfl)
    intro t S4 hcase
    walk_at "dd"
    refine lc_pure (fun _ => true) (chK i mk) (by rw [List.length_map]; omega) (fun z hz X Y h1 h3 => ?_) ?_
    · obtain ⟨e, hp, rfl⟩ := List.mem_map.mp hz
      replace h1 : X (.v (if e.1 = i then .tup [.int e.1, .int e.2.1, .bl mk] else rowE e)) S4 := h1 rfl
      walk_at "dd"
      refine i_two (fun c1 => ?_) fun c1 => ?_
      · rw [if_pos c1] at h1
        walk_at "dd"
        exact h1
      · rw [if_neg c1] at h1
        walk_at "dd"
        exact h1
    rcases hcase with ⟨g, rfl, rfl⟩ | ⟨e, g, rfl, h4, b4⟩
    · exact k (_, _) _ (.inl ⟨g, rfl, rfl⟩)
    · rw [lc_change (w := c.writes + 1) wt.wt.nd g]
      have wc := wt.change (b := mk) g
      refine k (_, _) _ (.inr ⟨e, c.change i e mk, g, rfl, rfl, ⟨h4, wc.1, by rw [wc.2]; exact Nat.le_succ _, h3.bt2 b4 nj nm, fun i x hi hj hm e => b4.ext (k3 i x hi hj hm e) hj hm⟩⟩)
  rintro ⟨t, lt⟩ S4 hcase
  walk_at "dd"
  refine lc_pure (fun _ => true) (neK i) (by rw [List.length_map]; omega) (fun z hz X Y h1 h3 => ?_) ?_
  · obtain ⟨e, hp, rfl⟩ := List.mem_map.mp hz
    replace h1 : X (.v (.bl (!decide (e.1 = i)))) _ := h1 rfl
    walk_at "dd"
    exact h1
  rw [lc_neK]
  walk_at "dd"
  refine (show sCall _ _ (.builtin "all") [] [.v (.lst ((c.kvs.map fun (e : Ent) => !decide (e.1 = i)).map .bl))] [] _ _ _ from ?_)
  refine c_all rfl ls_v ?_
  rw [all_neK]
  rcases hcase with ⟨g, et, rfl⟩ | ⟨e, c', g, et, el, st⟩
  · obtain rfl : t = errS "UnknownRow" (shY (.int i)) := et
    rw [g, show (!(none : Option (Int × Bool × Int)).isSome) = true from rfl]
    walk_at "dd"
    refine c_reprY gk.y ?_
    walk_at "dd"
    refine eq_two (two_err (asc_of (by decide)) gk.a) ?_
    walk_at "dd"
    exact q _ _ stay
  · obtain rfl : t = toldS "None" := et
    obtain rfl : lt = c'.kvs.map rowE := el
    rw [g, show (!(some e : Option (Int × Bool × Int)).isSome) = false from rfl]
    walk_at "dd"
    refine eq_two (two_err (asc_of (by decide)) (asc_of (by decide))) ?_
    walk_at "dd"
    exact q _ _ st
end Toy

set_option Elab.async false
set_option linter.all false
set_option maxRecDepth 100000
set_option maxHeartbeats 1000000
namespace Toy
open PySem PySem.Spec PyProof.Rows L2 My Dt SX
local macro_rules | `(tactic| walk_at "rg") => `(tactic| first
  | omega
  | ((refine And.intro ?_ (And.intro ?_ (And.intro ?_ ?_))) <;> omega))
local macro_rules | `(tactic| walk_at "ls") => `(tactic| first
  | with_reducible exact ls_v
  | with_reducible exact ls_b
  | ((with_reducible refine' ls_p ?hlp); (case hlp => with_reducible assumption)))
local macro_rules | `(tactic| walk_at "start") => `(tactic| ((simp only [startM, startS, List.map_cons, List.map_nil, List.length_cons, List.length_nil, List.cons_append, List.nil_append, Nat.reduceAdd, Nat.reduceSub, List.replicate_succ, List.replicate_zero]); exact rfl))
local macro_rules | `(tactic| walk_at "set") => `(tactic| first
  | ((dsimp only [Int.reduceToNat, List.set_cons_zero, List.set_cons_succ, VO.sl]); done)
  | ((dsimp only [Int.reduceToNat, List.set_cons_zero, List.set_cons_succ, VO.sl]); exact rfl)
  | exact rfl)
local macro_rules | `(tactic| walk_at "sz") => `(tactic| first
  | exact sz_of (Nat.le_of_ble_eq_true rfl)
  | (apply sz_of; simp only [List.length_cons, List.length_nil, List.length_append, List.length_map]; omega))
local macro_rules | `(tactic| walk_at "side") => `(tactic| first
  | with_reducible assumption
  | omega
  | exact ml (by omega) (by omega)
  | exact mr (by omega) (by omega)
  | exact dv (by omega) (by omega)
  | exact Bd.mulOk (by with_reducible assumption) (by with_reducible assumption) (by decide) (by decide) (by decide)
  | exact Bd.div (by with_reducible assumption) (by omega) (by decide) (by decide)
  | (show (0 : Int) < _; omega)
  | exact ⟨by decide, by decide, by decide⟩
  | decide
  | exact rfl)
local macro_rules | `(tactic| walk_at "st") => `(tactic| first
  | with_reducible refine q_seq ?_
  | with_reducible refine q_end ?_
  | with_reducible refine q_nil ?_
  | with_reducible refine q_asg ?_
  | with_reducible refine q_asg2 ?_
  | with_reducible refine q_ret ?_
  | with_reducible refine q_if ?_
  | with_reducible refine q_expr ?_
  | with_reducible refine q_retN ?_
  | with_reducible refine q_sub ?_
  | with_reducible refine q_for ?_
  | with_reducible refine q_del ?_
  | with_reducible refine q_par ?_
  | with_reducible refine q_par3 ?_
  | with_reducible refine q_parV ?_
  | with_reducible refine q_parV3 ?_
  | with_reducible refine q_asgF ?_
  | with_reducible refine q_asgC ?_
  | ((with_reducible refine' q_frz ?ef ?_); (case ef => exact rfl))
  | ((with_reducible refine' q_app ?ea ?eb ?_); (case ea => exact rfl); (case eb => walk_at "slen"))
  | with_reducible refine q_brk ?_
  | with_reducible refine q_cnt ?_
  | with_reducible refine q_fldS ?_
  | with_reducible refine q_fldP ?_
  | with_reducible refine q_raise ?_
  | with_reducible refine q_try ?_)
local macro_rules | `(tactic| walk_at "slen") => `(tactic| first
  | with_reducible assumption
  | ((rw [sizeLine_eq]); (simp only [List.length_cons, List.length_nil, List.length_append, List.length_map]); omega))
local macro_rules | `(tactic| walk_at "sm") => `(tactic| first
  | with_reducible refine s_add ?_
  | with_reducible refine s_sub ?_
  | ((with_reducible refine' s_mul ?hm ?_); (case hm => walk_at "side"))
  | ((with_reducible refine' s_fdiv ?hm ?_); (case hm => walk_at "side"))
  | ((with_reducible refine' s_mod ?hm ?_); (case hm => walk_at "side"))
  | with_reducible refine s_neg ?_
  | ((with_reducible refine' s_pow ?hm ?_); (case hm => walk_at "side"))
  | ((with_reducible refine' s_ixL ?hl ?he ?_); (case hl => walk_at "ls"); (case he => exact rfl))
  | ((with_reducible refine' s_ixT ?he ?_); (case he => exact rfl))
  | ((with_reducible refine' set_L2 ?ha ?hb ?hc ?_); (case ha => with_reducible assumption); (case hb => exact rfl); (case hc => walk_at "set"))
  | with_reducible refine s_addB ?_
  | with_reducible refine s_lt ?_
  | with_reducible refine s_le ?_
  | with_reducible refine s_gt ?_
  | with_reducible refine s_ge ?_
  | with_reducible refine s_eq ?_
  | with_reducible refine s_ne ?_
  | ((with_reducible refine' s_neSame ?he ?_); (case he => with_reducible rfl))
  | ((with_reducible refine' s_eqSame ?he ?_); (case he => with_reducible rfl))
  | with_reducible refine s_eqS ?_
  | with_reducible refine s_neS ?_
  | with_reducible refine s_isN ?_
  | with_reducible refine s_isNotN ?_
  | with_reducible refine t_bl ?_)
local macro_rules | `(tactic| walk_at "cl") => `(tactic| first
  | with_reducible refine c_int ?_
  | with_reducible refine c_intB ?_
  | with_reducible refine c_abs ?_
  | ((with_reducible refine' c_max ?hm ?_); (case hm => exact rfl))
  | ((with_reducible refine' c_min ?hm ?_); (case hm => exact rfl))
  | ((with_reducible refine' c_divmod ?hm ?_); (case hm => walk_at "side"))
  | ((with_reducible refine' c_len ?hm ?_); (case hm => walk_at "sq"))
  | ((with_reducible refine' c_list ?hm ?_); (case hm => walk_at "sq"))
  | ((with_reducible refine' c_tuple ?hm ?_); (case hm => walk_at "sq")))
local macro_rules | `(tactic| walk_at "sq") => `(tactic| first
  | exact sqL
  | exact sqT
  | exact sqB
  | exact sqP (by with_reducible assumption))
local macro_rules | `(tactic| walk_at "v") => `(tactic| first
  | ((with_reducible refine' v_sh ?ev ?_); (case ev => exact rfl))
  | ((with_reducible refine' v_ol ?ev ?_); (case ev => exact rfl))
  | ((with_reducible refine' v_slf ?ev ?_); (case ev => exact rfl))
  | with_reducible refine q_val ?_
  | ((with_reducible refine' q_walk ?ew ?_); (case ew => exact rfl))
  | ((with_reducible refine' q_rng1 ?ej ?ek ?_); (case ej => walk_at "rg"); (case ek => walk_at "rg"))
  | ((with_reducible refine' q_rng2 ?ej ?_); (case ej => walk_at "rg"))
  | with_reducible refine q_rngL ?_
  | with_reducible refine q_solc ?_
  | with_reducible refine q_sol0 ?_
  | ((with_reducible refine' q_gname ?eg ?_); (case eg => walk_at "set"))
  | ((with_reducible refine' n_set ?eg ?_); (case eg => walk_at "set"))
  | ((with_reducible refine' n_set2 ?eg ?_); (case eg => walk_at "set"))
  | ((with_reducible refine' n_set3 ?eg ?_); (case eg => walk_at "set"))
  | with_reducible refine q_two ?_
  | with_reducible refine q_three ?_
  | with_reducible refine q_vv ?_
  | with_reducible refine q_isS ?_
  | with_reducible refine q_isL ?_
  | with_reducible refine q_twoV ?_
  | with_reducible refine q_threeV ?_
  | with_reducible refine q_bl ?_
  | with_reducible refine q_oint ?_
  | ((with_reducible refine' q_gtup ?el ?_); (case el => exact rfl))
  | with_reducible refine q_gcons ?_
  | with_reducible refine q_gnil ?_
  | with_reducible refine i_t ?_
  | with_reducible refine i_f ?_
  | with_reducible refine i_nt ?_
  | with_reducible refine i_nf ?_
  | ((with_reducible refine' n_t ?en ?_); (case en => exact rfl))
  | ((with_reducible refine' n_f ?en ?_); (case en => exact rfl))
  | ((with_reducible refine' nn_t ?en ?_); (case en => exact rfl))
  | ((with_reducible refine' nn_f ?en ?_); (case en => exact rfl))
  | with_reducible refine And.intro (by walk_at "sz") ?_)
local macro_rules | `(tactic| walk_at "d") => `(tactic| first
  | walk_at "v"
  | walk_at "st"
  | walk_at "sm"
  | walk_at "cl"
  | walk_at "at")
local macro_rules | `(tactic| walk_at "dd") => `(tactic| repeat walk_at "d")
local macro_rules | `(tactic| walk_at "tx") => `(tactic| simp only [l_dash, l_dot, l_nil, l_space, l_figs, l_signs])

variable {P : Program} {w : World} {K : PySem.W.Frag} {mg : Str → Option Value} {base : Heap} {S : Sto} {Ex : XS} {Q : QO}

def snd3 : D → D := fun x => match x with
  | .tup (_ :: b :: _) => b
  | _ => .non
def fst3 : D → D := fun x => match x with
  | .tup (a :: _) => a
  | _ => .non
theorem lc_snd {P : List Ent} : ((P.map rowE).filter fun _ => true).map snd3 = (P.map (·.2.1)).map D.int := by
  rw [List.filter_eq_self.mpr (fun _ _ => rfl), List.map_map, List.map_map] <;> rfl
def rkB (r : Int) : D → Bool := fun x => match x with
  | .tup (_ :: .int k :: _) => decide (k = r)
  | _ => false
/-- the entries by their ranks -/
def esL (kvs : List Ent) : List Ent := kvs.mergeSort fun a b => decide (a.2.1 ≤ b.2.1)
theorem es_perm (kvs : List Ent) : (esL kvs).Perm kvs := List.mergeSort_perm _ _
theorem es_rank {kvs : List Ent} {ms : List Int} (p : ms.Perm (kvs.map (·.2.1))) (a : ms.Pairwise (· ≤ ·)) : (esL kvs).map (·.2.1) = ms := by
  refine sort_uniq (((es_perm kvs).map _).trans p.symm) ?_ a
  refine List.pairwise_map.mpr ?_
  refine (List.pairwise_mergeSort (le := fun a b : Ent => decide (a.2.1 ≤ b.2.1)) (fun a b c h k => decide_eq_true (Int.le_trans (of_decide_eq_true h) (of_decide_eq_true k))) (fun a b => ?_) kvs).imp fun h => of_decide_eq_true h
  rcases Int.le_total a.2.1 b.2.1 with h | h
  · simp [h]
  · simp [h]
theorem ord_es {kvs : List Ent} (h : (kvs.map (·.2.1)).Nodup) : ordL kvs = (esL kvs).map fun e => D.int e.1 := by
  unfold ordL
  rw [← es_rank (sortI_perm _) (sortI_pair _), List.map_map]
  exact List.map_congr_left fun e he => own_distinct h ((es_perm kvs).mem_iff.mp he)
theorem one_rank {kvs : List Ent} (h : (kvs.map (·.2.1)).Nodup) {e : Ent} (he : e ∈ kvs) : ((kvs.map rowE).filter (rkB e.2.1)).map fst3 = [.int e.1] := by
  induction kvs with
  | nil => cases he
  | cons f r ih =>
    rw [List.map_cons] at h
    have nd := List.nodup_cons.mp h
    rw [List.map_cons, List.filter_cons]
    rcases List.mem_cons.mp he with y | y
    · subst y
      rw [if_pos (show rkB e.2.1 (rowE e) = true from decide_eq_true rfl)]
      have : (r.map rowE).filter (rkB e.2.1) = [] := by
        refine List.filter_eq_nil_iff.mpr fun x hx => ?_
        obtain ⟨g, hg, rfl⟩ := List.mem_map.mp hx
        intro z
        exact nd.1 (List.mem_map.mpr ⟨g, hg, of_decide_eq_true z⟩)
      rw [this] <;> rfl
    · have ne : ¬ f.2.1 = e.2.1 := fun w => nd.1 (by rw [w]; exact List.mem_map.mpr ⟨e, y, rfl⟩)
      rw [if_neg (show ¬ rkB e.2.1 (rowE f) = true from fun z => ne (of_decide_eq_true z))]
      exact ih nd.2 y
abbrev mkE (e : Ent) : Key × D := (.inl e.1, .bl e.2.2.1)
theorem mk_val {kvs : List Ent} (h : (kvs.map (·.1)).Nodup) {e : Ent} (he : e ∈ kvs) : valD (kvs.map mkE) (.inl e.1) = some (.bl e.2.2.1) := by
  unfold valD
  induction kvs with
  | nil => cases he
  | cons f r ih =>
    rw [List.map_cons] at h
    have nd := List.nodup_cons.mp h
    rw [List.map_cons, List.find?_cons]
    rcases List.mem_cons.mp he with y | y
    · subst y
      rw [decide_eq_true rfl] <;> rfl
    · have ne : ¬ (mkE f).1 = .inl e.1 := fun w => nd.1 (by rw [inl_iff.mp w]; exact List.mem_map.mpr ⟨e, y, rfl⟩)
      rw [decide_eq_false ne]
      exact ih nd.2 y
theorem mk_put {kvs : List Ent} {e : Ent} (h : e.1 ∉ kvs.map (·.1)) : putKD (kvs.map mkE) (.inl e.1) (.bl e.2.2.1) = (kvs ++ [e]).map mkE := by
  unfold putKD
  rw [if_neg]
  · rw [List.map_append] <;> rfl
  · intro z
    obtain ⟨p, hp, hz⟩ := List.any_eq_true.mp z
    obtain ⟨f, hf, rfl⟩ := List.mem_map.mp hp
    have hz2 : (Sum.inl f.1 : Key) = .inl e.1 := of_decide_eq_true hz
    exact h (List.mem_map.mpr ⟨f, hf, inl_iff.mp hz2⟩)
/-- all that is seen -/
def sawD (c : Tab) : D := .lst [.int c.size, .int c.marked, .lst ((esL c.kvs).map fun e => .int e.1), .lst ((esL c.kvs).map fun e => .bl e.2.2.1), .lst ((esL c.kvs).map fun e => .bl e.2.2.1)]
theorem saw_p {c : Tab} (h : WT c) : ∃ p, pd (sawD c) = some p ∧ Fine 2 30100 13 p ∧ ascP p = true := by
  have few := h.wt.few
  have len : (esL c.kvs).length = c.kvs.length := (es_perm _).length_eq
  have f1 : Fine 1 5000 13 (.list ((esL c.kvs).map fun e => .int e.1)) := Fine.list (n := 0) (w := 40) (fps_map fun e he => by
    have := (h.kr e ((es_perm _).mem_iff.mp he)).1
    exact fp_small (by omega) (by decide)) (by rw [List.length_map]; omega)
  have f2 : Fine 1 5000 13 (.list ((esL c.kvs).map fun e => .bool e.2.2.1)) := Fine.list (n := 0) (w := 40) (fps_map fun k hk' => fp_bool) (by rw [List.length_map]; omega)
  have mk : c.marked ≤ 100 := by
    rw [h.wt.mks]
    have := List.length_filter_le (fun e : Ent => e.2.2.1) c.kvs
    omega
  have mk0 : 0 ≤ c.marked := by rw [h.wt.mks]; omega
  have sz := h.wt.sz
  have g1 : pd (.lst ((esL c.kvs).map fun e => .int e.1)) = some (.list ((esL c.kvs).map fun e => .int e.1)) := by
    show (pds _).map _ = _
    rw [pds_map (f := fun e : Ent => D.int e.1) (g := fun e => PyData.int e.1) (fun _ => rfl) (esL c.kvs)] <;> rfl
  have g2 : pd (.lst ((esL c.kvs).map fun e => .bl e.2.2.1)) = some (.list ((esL c.kvs).map fun e => .bool e.2.2.1)) := by
    show (pds _).map _ = _
    rw [pds_map (f := fun e : Ent => D.bl e.2.2.1) (g := fun e => PyData.bool e.2.2.1) (fun _ => rfl) (esL c.kvs)] <;> rfl
  have e3 : pd (sawD c) = some (.list [.int c.size, .int c.marked, .list ((esL c.kvs).map fun e => .int e.1), .list ((esL c.kvs).map fun e => .bool e.2.2.1), .list ((esL c.kvs).map fun e => .bool e.2.2.1)]) := by
    show (pds [D.int c.size, .int c.marked, .lst ((esL c.kvs).map fun e => .int e.1), .lst ((esL c.kvs).map fun e => .bl e.2.2.1), .lst ((esL c.kvs).map fun e => .bl e.2.2.1)]).map PyData.list = _
    rw [pds, pds, pds, pds, pds, pds, g1, g2] <;> rfl
  have f3 : Fine 2 30100 13 (.list [.int c.size, .int c.marked, .list ((esL c.kvs).map fun e => .int e.1), .list ((esL c.kvs).map fun e => .bool e.2.2.1), .list ((esL c.kvs).map fun e => .bool e.2.2.1)]) := Fine.list (n := 1) (w := 5000) (fps_cons (fp_small (by omega) (by decide)) (fps_cons (fp_small (by omega) (by decide)) (fps_cons f1 (fps_cons f2 (fps_cons f2 fps_nil))))) (by simp)
  refine ⟨_, e3, f3, ?_⟩
  show (true && (true && (ascPs ((esL c.kvs).map fun e => .int e.1) && (ascPs ((esL c.kvs).map fun e => .bool e.2.2.1) && (ascPs ((esL c.kvs).map fun e => .bool e.2.2.1) && true))))) = true
  rw [ascPs_map (fun _ _ => rfl), ascPs_map (fun _ _ => rfl)] <;> rfl
theorem saw_y {c : Tab} (h : WT c) : Yd (sawD c) := by
  obtain ⟨p, e3, f3, a⟩ := saw_p h
  exact .inl ⟨_, e3, f3.nd, f3.shw, Nat.le_trans f3.dep (by decide), f3.fits (by decide) (by decide)⟩
theorem cnt_mks {c : Tab} (h : WT c) : (((esL c.kvs).map fun e => e.2.2.1).count true : Int) = c.marked := by
  rw [h.wt.mks, ((es_perm c.kvs).map _).count_eq, List.count_eq_length_filter, List.filter_map, List.length_map]
  congr 2
  refine List.filter_congr fun e _ => ?_
  show (e.2.2.1 == true) = e.2.2.1
  cases e.2.2.1 <;> rfl
end Toy

set_option Elab.async false
set_option linter.all false
set_option maxRecDepth 100000
set_option maxHeartbeats 1000000
namespace Toy
open PySem PySem.Spec PyProof.Rows L2 My Dt SX
local macro_rules | `(tactic| walk_at "rg") => `(tactic| first
  | omega
  | ((refine And.intro ?_ (And.intro ?_ (And.intro ?_ ?_))) <;> omega))
local macro_rules | `(tactic| walk_at "ls") => `(tactic| first
  | with_reducible exact ls_v
  | with_reducible exact ls_b
  | ((with_reducible refine' ls_p ?hlp); (case hlp => with_reducible assumption)))
local macro_rules | `(tactic| walk_at "start") => `(tactic| ((simp only [startM, startS, List.map_cons, List.map_nil, List.length_cons, List.length_nil, List.cons_append, List.nil_append, Nat.reduceAdd, Nat.reduceSub, List.replicate_succ, List.replicate_zero]); exact rfl))
local macro_rules | `(tactic| walk_at "set") => `(tactic| first
  | ((dsimp only [Int.reduceToNat, List.set_cons_zero, List.set_cons_succ, VO.sl]); done)
  | ((dsimp only [Int.reduceToNat, List.set_cons_zero, List.set_cons_succ, VO.sl]); exact rfl)
  | exact rfl)
local macro_rules | `(tactic| walk_at "sz") => `(tactic| first
  | exact sz_of (Nat.le_of_ble_eq_true rfl)
  | (apply sz_of; simp only [List.length_cons, List.length_nil, List.length_append, List.length_map]; omega))
local macro_rules | `(tactic| walk_at "side") => `(tactic| first
  | with_reducible assumption
  | omega
  | exact ml (by omega) (by omega)
  | exact mr (by omega) (by omega)
  | exact dv (by omega) (by omega)
  | exact Bd.mulOk (by with_reducible assumption) (by with_reducible assumption) (by decide) (by decide) (by decide)
  | exact Bd.div (by with_reducible assumption) (by omega) (by decide) (by decide)
  | (show (0 : Int) < _; omega)
  | exact ⟨by decide, by decide, by decide⟩
  | decide
  | exact rfl)
local macro_rules | `(tactic| walk_at "st") => `(tactic| first
  | with_reducible refine q_seq ?_
  | with_reducible refine q_end ?_
  | with_reducible refine q_nil ?_
  | with_reducible refine q_asg ?_
  | with_reducible refine q_asg2 ?_
  | with_reducible refine q_ret ?_
  | with_reducible refine q_if ?_
  | with_reducible refine q_expr ?_
  | with_reducible refine q_retN ?_
  | with_reducible refine q_sub ?_
  | with_reducible refine q_for ?_
  | with_reducible refine q_del ?_
  | with_reducible refine q_par ?_
  | with_reducible refine q_par3 ?_
  | with_reducible refine q_parV ?_
  | with_reducible refine q_parV3 ?_
  | with_reducible refine q_asgF ?_
  | with_reducible refine q_asgC ?_
  | ((with_reducible refine' q_frz ?ef ?_); (case ef => exact rfl))
  | ((with_reducible refine' q_app ?ea ?eb ?_); (case ea => exact rfl); (case eb => walk_at "slen"))
  | with_reducible refine q_brk ?_
  | with_reducible refine q_cnt ?_
  | with_reducible refine q_fldS ?_
  | with_reducible refine q_fldP ?_
  | with_reducible refine q_raise ?_
  | with_reducible refine q_try ?_)
local macro_rules | `(tactic| walk_at "slen") => `(tactic| first
  | with_reducible assumption
  | ((rw [sizeLine_eq]); (simp only [List.length_cons, List.length_nil, List.length_append, List.length_map]); omega))
local macro_rules | `(tactic| walk_at "sm") => `(tactic| first
  | with_reducible refine s_add ?_
  | with_reducible refine s_sub ?_
  | ((with_reducible refine' s_mul ?hm ?_); (case hm => walk_at "side"))
  | ((with_reducible refine' s_fdiv ?hm ?_); (case hm => walk_at "side"))
  | ((with_reducible refine' s_mod ?hm ?_); (case hm => walk_at "side"))
  | with_reducible refine s_neg ?_
  | ((with_reducible refine' s_pow ?hm ?_); (case hm => walk_at "side"))
  | ((with_reducible refine' s_ixL ?hl ?he ?_); (case hl => walk_at "ls"); (case he => exact rfl))
  | ((with_reducible refine' s_ixT ?he ?_); (case he => exact rfl))
  | ((with_reducible refine' set_L2 ?ha ?hb ?hc ?_); (case ha => with_reducible assumption); (case hb => exact rfl); (case hc => walk_at "set"))
  | with_reducible refine s_addB ?_
  | with_reducible refine s_lt ?_
  | with_reducible refine s_le ?_
  | with_reducible refine s_gt ?_
  | with_reducible refine s_ge ?_
  | with_reducible refine s_eq ?_
  | with_reducible refine s_ne ?_
  | ((with_reducible refine' s_neSame ?he ?_); (case he => with_reducible rfl))
  | ((with_reducible refine' s_eqSame ?he ?_); (case he => with_reducible rfl))
  | with_reducible refine s_eqS ?_
  | with_reducible refine s_neS ?_
  | with_reducible refine s_isN ?_
  | with_reducible refine s_isNotN ?_
  | with_reducible refine t_bl ?_)
local macro_rules | `(tactic| walk_at "cl") => `(tactic| first
  | with_reducible refine c_int ?_
  | with_reducible refine c_intB ?_
  | with_reducible refine c_abs ?_
  | ((with_reducible refine' c_max ?hm ?_); (case hm => exact rfl))
  | ((with_reducible refine' c_min ?hm ?_); (case hm => exact rfl))
  | ((with_reducible refine' c_divmod ?hm ?_); (case hm => walk_at "side"))
  | ((with_reducible refine' c_len ?hm ?_); (case hm => walk_at "sq"))
  | ((with_reducible refine' c_list ?hm ?_); (case hm => walk_at "sq"))
  | ((with_reducible refine' c_tuple ?hm ?_); (case hm => walk_at "sq")))
local macro_rules | `(tactic| walk_at "sq") => `(tactic| first
  | exact sqL
  | exact sqT
  | exact sqB
  | exact sqP (by with_reducible assumption))
local macro_rules | `(tactic| walk_at "v") => `(tactic| first
  | ((with_reducible refine' v_sh ?ev ?_); (case ev => exact rfl))
  | ((with_reducible refine' v_ol ?ev ?_); (case ev => exact rfl))
  | ((with_reducible refine' v_slf ?ev ?_); (case ev => exact rfl))
  | with_reducible refine q_val ?_
  | ((with_reducible refine' q_walk ?ew ?_); (case ew => exact rfl))
  | ((with_reducible refine' q_rng1 ?ej ?ek ?_); (case ej => walk_at "rg"); (case ek => walk_at "rg"))
  | ((with_reducible refine' q_rng2 ?ej ?_); (case ej => walk_at "rg"))
  | with_reducible refine q_rngL ?_
  | with_reducible refine q_solc ?_
  | with_reducible refine q_sol0 ?_
  | ((with_reducible refine' q_gname ?eg ?_); (case eg => walk_at "set"))
  | ((with_reducible refine' n_set ?eg ?_); (case eg => walk_at "set"))
  | ((with_reducible refine' n_set2 ?eg ?_); (case eg => walk_at "set"))
  | ((with_reducible refine' n_set3 ?eg ?_); (case eg => walk_at "set"))
  | with_reducible refine q_two ?_
  | with_reducible refine q_three ?_
  | with_reducible refine q_vv ?_
  | with_reducible refine q_isS ?_
  | with_reducible refine q_isL ?_
  | with_reducible refine q_twoV ?_
  | with_reducible refine q_threeV ?_
  | with_reducible refine q_bl ?_
  | with_reducible refine q_oint ?_
  | ((with_reducible refine' q_gtup ?el ?_); (case el => exact rfl))
  | with_reducible refine q_gcons ?_
  | with_reducible refine q_gnil ?_
  | with_reducible refine i_t ?_
  | with_reducible refine i_f ?_
  | with_reducible refine i_nt ?_
  | with_reducible refine i_nf ?_
  | ((with_reducible refine' n_t ?en ?_); (case en => exact rfl))
  | ((with_reducible refine' n_f ?en ?_); (case en => exact rfl))
  | ((with_reducible refine' nn_t ?en ?_); (case en => exact rfl))
  | ((with_reducible refine' nn_f ?en ?_); (case en => exact rfl))
  | with_reducible refine And.intro (by walk_at "sz") ?_)
local macro_rules | `(tactic| walk_at "d") => `(tactic| first
  | walk_at "v"
  | walk_at "st"
  | walk_at "sm"
  | walk_at "cl"
  | walk_at "at")
local macro_rules | `(tactic| walk_at "dd") => `(tactic| repeat walk_at "d")
local macro_rules | `(tactic| walk_at "tx") => `(tactic| simp only [l_dash, l_dot, l_nil, l_space, l_figs, l_signs])

variable {P : Program} {w : World} {K : PySem.W.Frag} {mg : Str → Option Value} {base : Heap} {S : Sto} {Ex : XS} {Q : QO}

theorem ok_fits (T : Tx K mg) {j m : Nat} {c : Tab} (hc : HasT S j m c) (wt : WT c) (q : ∀ z, Q (.v (.bl true)) (S ++ z)) : sFun (bs P w K mg base) 7 (.ref (He.ga K "_law_fits")) [] [.ptr j, rowsE c.kvs] [] S Ex Q := by
  refine' call_d (B := bs P w K mg base) 6 (Classical.choose_spec T.d_law_fits) sc_law_fits rfl (bm_all (ps := ["_law_table", "_law_rows"]) (Classical.choose_spec T.d_law_fits) (fun _ _ _ _ _ _ us hl => match us, hl with | [_, _], _ => rfl)) (dss_cons (ds_asgS (de_tup (da_cons (de_lstV da_nil) (da_cons de_dnew da_nil))) (dg_tup (n := 2) rfl (dgs_cons (dgn 2) (dgs_cons (dgn 3) dgs_nil))) (fun env h => by cases env; cases h; rfl)) (dss_cons (ds_for rfl rfl (di_val (de_callB (id := "sorted") rfl T.f_sorted (by decide +kernel) (da_cons (DF.de (df_lc (own := [("_law_row", 5)]) rfl (by decide) (di_val (dv 1)) (blkOk_by (N := ["_law_table", "_law_rows", "_law_tags", "_law_marks", "_law_place_here", "_law_row", "_law_due", "_law_seen", "_law_again", "_law_tag_here"]) (sc := defScope s_law_fits) (by decide +kernel)) (dgn 5) dts_nil (de_callT (T := "int") rfl T.f_int (by decide +kernel) (da_cons (de_ix (dv 5) de_int (fun _ _ => rfl)) da_nil)))) da_nil))) (dgn 4) (dss_one (dst 2 (de_bin (dv 2) (DF.de (df_lc (own := [("_law_row", 5)]) rfl (by decide) (di_val (dv 1)) (blkOk_by (N := ["_law_table", "_law_rows", "_law_tags", "_law_marks", "_law_place_here", "_law_row", "_law_due", "_law_seen", "_law_again", "_law_tag_here"]) (sc := defScope s_law_fits) (by decide +kernel)) (dgn 5) (dts_one (dt_cmp (de_ix (dv 5) de_int (fun _ _ => rfl)) (dv 4))) (de_ix (dv 5) de_int (fun _ _ => rfl)))))))) (dss_cons (ds_for rfl rfl (di_val (dv 1)) (dgn 5) (dss_one (ds_sub (dv 3) (de_ix (dv 5) de_int (fun _ _ => rfl)) (de_ix (dv 5) de_int (fun _ _ => rfl))))) (dss_cons (ds_setLc (i := 6) (own := [("_law_tag_here", 9)]) rfl (by decide) rfl rfl (fun _ h => sw_true (by rw [h]; rfl) (by rw [h]; rfl) rfl (by decide +kernel)) (di_val (dv 2)) (blkOk_by (N := ["_law_table", "_law_rows", "_law_tags", "_law_marks", "_law_place_here", "_law_row", "_law_due", "_law_seen", "_law_again", "_law_tag_here"]) (sc := defScope s_law_fits) (by decide +kernel)) (dgn 9) dts_nil (de_ix (dv 3) (dv 9) (fun _ _ => rfl))) (dss_frz 6 (dss_cons (dst 7 (de_lstV (da_cons (de_attr (dv 0)) (da_cons (de_attr (dv 0)) (da_cons (de_glist (k := 3) rfl (Nat.le_of_ble_eq_true rfl) rfl T.f_list (dv 0) T.cl_Table T.m_Table_order (gen_Table_order T) (bn_Table_order T)) (da_cons (DF.de (df_lc (own := [("_law_tag_here", 9)]) rfl (by decide) (di_val (dv 2)) (blkOk_by (N := ["_law_table", "_law_rows", "_law_tags", "_law_marks", "_law_place_here", "_law_row", "_law_due", "_law_seen", "_law_again", "_law_tag_here"]) (sc := defScope s_law_fits) (by decide +kernel)) (dgn 9) dts_nil (de_me rfl (dv 0) (da_cons (dv 9) da_nil)))) da_nil)))))) (dss_cons (ds_setLc (i := 8) (own := [("_law_tag_here", 9)]) rfl (by decide) rfl rfl (fun _ h => sw_true (by rw [h]; rfl) (by rw [h]; rfl) rfl (by decide +kernel)) (di_val (dv 2)) (blkOk_by (N := ["_law_table", "_law_rows", "_law_tags", "_law_marks", "_law_place_here", "_law_row", "_law_due", "_law_seen", "_law_again", "_law_tag_here"]) (sc := defScope s_law_fits) (by decide +kernel)) (dgn 9) dts_nil (de_mek0 (ks := ["key"]) rfl (dv 0) (dk_cons (dv 9) dk_nil))) (dss_frz 8 (dss_one (ds_ret (de_cmp (de_callB (id := "repr") rfl T.f_repr (by decide +kernel) (da_cons (de_bin (dv 7) (de_lstV (da_cons (dv 8) da_nil))) da_nil)) (de_callB (id := "repr") rfl T.f_repr (by decide +kernel) (da_cons (de_lstV (da_cons (de_callB (id := "len") rfl T.f_len (by decide +kernel) (da_cons (dv 1) da_nil)) (da_cons (de_bm PySem.F.plainAttrs_list PySem.F.slot_list_count PySem.F.type_list_count (dv 6) (da_cons de_bl da_nil)) (da_cons (dv 2) (da_cons (dv 6) (da_cons (dv 6) da_nil)))))) da_nil))))))))))))) ⟨rfl, rfl⟩ ?st ?_
  case st => walk_at "start"
  have few := wt.wt.few
  have len : (esL c.kvs).length = c.kvs.length := (es_perm _).length_eq
  have mem : ∀ {e : Ent}, e ∈ esL c.kvs → e ∈ c.kvs := fun h => (es_perm _).mem_iff.mp h
  walk_at "dd"
  unfold aCons
  refine (show dDnew _ _ _ _ from .inr ?_)
  walk_at "dd"
  refine lc_pure (fun _ => true) snd3 (by rw [List.length_map]; omega) (fun z hz X Y h1 h3 => ?_) ?_
  · obtain ⟨e, hp, rfl⟩ := List.mem_map.mp hz
    replace h1 : X (.v (.int e.2.1)) _ := h1 rfl
    walk_at "dd"
    exact h1
  rw [lc_snd]
  refine (show sCall _ _ (.builtin "sorted") [] [.v (.lst ((c.kvs.map (·.2.1)).map .int))] [] _ _ _ from ?_)
  refine c_sorted (ns := c.kvs.map (·.2.1)) ls_v fun ms pm as => .inl ?_
  have em := es_rank pm as
  subst em
  have hc1 : HasT (S ++ [.dct []]) j m c := hc.app
  have hd : (S ++ [Cell.dct []])[S.length]? = some (.dct []) := List.getElem?_concat_length
  walk_at "dd"
  refine (show Loop _ _ _ (((esL c.kvs).map (·.2.1)).map D.int) _ _ from ?_)
  refine loop_inv (fun i ρ S' => S' = S ++ [.dct []] ∧ i ≤ (esL c.kvs).length ∧ ∃ x4 : Sl, ρ = [.sh (.ptr j), .sh (rowsE c.kvs), .sh (.lst (((esL c.kvs).take i).map fun e => .int e.1)), .sh (.ptr S.length), x4, .un, .un, .un, .un, .un]) ⟨rfl, Nat.zero_le _, _, rfl⟩ ?_ ?_
  · rintro i x ρ S' Nx hx ⟨rfl, hi, x4, rfl⟩ hN
    rw [List.getElem?_map, List.getElem?_map] at hx
    obtain ⟨r, hr, rfl⟩ := Option.map_eq_some_iff.mp hx
    obtain ⟨e, he, rfl⟩ := Option.map_eq_some_iff.mp hr
    have hm := mem (List.mem_of_getElem? he)
    have hlt := (List.getElem?_eq_some_iff.mp he).1
    walk_at "dd"
    refine lc_pure (rkB e.2.1) fst3 (by rw [List.length_map]; omega) (fun z hz X Y h1 h3 => ?_) ?_
    · obtain ⟨f, hp, rfl⟩ := List.mem_map.mp hz
      replace h1 : decide (f.2.1 = e.2.1) = true → X (.v (.int f.1)) (S ++ [Cell.dct []]) := h1
      replace h3 : decide (f.2.1 = e.2.1) = false → Y (S ++ [Cell.dct []]) := h3
      walk_at "dd"
      generalize decide (f.2.1 = e.2.1) = bb at h1 h3 ⊢
      cases bb with
      | true =>
        rw [if_pos rfl]
        walk_at "dd"
        exact h1 rfl
      | false =>
        rw [if_neg Bool.false_ne_true]
        exact h3 rfl
    rw [one_rank wt.wt.rk hm]
    walk_at "dd"
    refine s_cat ls_v ls_v (by rw [sizeLine_eq, List.length_map, List.length_take]; show _ + 1 ≤ _; omega) (.inl ?_)
    walk_at "dd"
    refine hN _ _ ⟨rfl, hlt, .sh (.int e.2.1), ?_⟩
    rw [List.take_add_one, he, List.map_append] <;> rfl
  rintro ρ S' ⟨rfl, _, x4, rfl⟩
  rw [List.length_map, List.length_map, List.take_length]
  walk_at "dd"
  refine loop_inv (fun i ρ S' => S' = S ++ [.dct ((c.kvs.take i).map mkE)] ∧ i ≤ c.kvs.length ∧ ∃ x5 : Sl, ρ = [.sh (.ptr j), .sh (rowsE c.kvs), .sh (.lst ((esL c.kvs).map fun e => .int e.1)), .sh (.ptr S.length), x4, x5, .un, .un, .un, .un]) ⟨rfl, Nat.zero_le _, _, rfl⟩ ?_ ?_
  · rintro i x ρ S' Nx hx ⟨rfl, hi, x5, rfl⟩ hN
    rw [List.getElem?_map] at hx
    obtain ⟨e, he, rfl⟩ := Option.map_eq_some_iff.mp hx
    have hlt := (List.getElem?_eq_some_iff.mp he).1
    have hat : (S ++ [Cell.dct ((c.kvs.take i).map mkE)])[S.length]? = some (.dct ((c.kvs.take i).map mkE)) := List.getElem?_concat_length
    have new : e.1 ∉ (c.kvs.take i).map (·.1) := by
      intro z
      obtain ⟨f, hf, ef⟩ := List.mem_map.mp z
      have nd := wt.wt.nd
      have sp : c.kvs = c.kvs.take i ++ c.kvs[i] :: c.kvs.drop (i + 1) := by
        rw [← List.drop_eq_getElem_cons hlt, List.take_append_drop]
      have ei : c.kvs[i] = e := by
        rw [List.getElem?_eq_getElem hlt] at he
        exact Option.some.inj he
      rw [sp, ei, List.map_append, List.map_cons] at nd
      exact (List.nodup_append.mp nd).2.2 _ z _ (.head _) rfl
    walk_at "dd"
    refine set_K (i := .inl e.1) (xs := (c.kvs.take i).map mkE) hat (by rw [List.length_map, List.length_take, sizeLine_eq]; omega) ?_
    rw [mk_put new]
    walk_at "dd"
    refine hN _ _ ⟨?_, hlt, _, rfl⟩
    rw [List.take_add_one, he, List.set_append_right _ _ (Nat.le_refl _), Nat.sub_self] <;> rfl
  rintro ρ S' ⟨rfl, _, x5, rfl⟩
  rw [List.length_map, List.take_length]
  have hat : (S ++ [Cell.dct (c.kvs.map mkE)])[S.length]? = some (.dct (c.kvs.map mkE)) := List.getElem?_concat_length
  have hc2 : HasT (S ++ [Cell.dct (c.kvs.map mkE)]) j m c := hc.app
  walk_at "dd"
  refine lc_pure (fun _ => true) (fun d => match d with | .int k => (valD (c.kvs.map mkE) (.inl k)).getD .non | _ => .non) (by rw [List.length_map]; omega) (fun z hz X Y h1 h3 => ?_) ?_
  · obtain ⟨e, hp, rfl⟩ := List.mem_map.mp hz
    have ev := mk_val wt.wt.nd (mem hp)
    replace h1 : X (.v ((valD (c.kvs.map mkE) (.inl e.1)).getD .non)) _ := h1 rfl
    rw [ev] at h1
    walk_at "dd"
    refine s_ixK (i := .inl e.1) (xs := c.kvs.map mkE) hat ev ?_
    walk_at "dd"
    exact h1
  have ed : (((esL c.kvs).map fun e => D.int e.1).filter fun _ => true).map (fun d => match d with | .int k => (valD (c.kvs.map mkE) (.inl k)).getD .non | _ => .non) = (esL c.kvs).map fun e => D.bl e.2.2.1 := by
    rw [List.filter_eq_self.mpr (fun _ _ => rfl), List.map_map]
    refine List.map_congr_left fun e he => ?_
    show (valD (c.kvs.map mkE) (.inl e.1)).getD .non = _
    rw [mk_val wt.wt.nd (mem he)] <;> rfl
  rw [ed]
  clear ed hd hc1
  generalize hS2 : S ++ [Cell.dct (c.kvs.map mkE)] = S2 at *
  walk_at "dd"
  refine sAttr_f (isI_ptr hc2.o) T.cl_Table T.n_Table_size rfl ?_
  walk_at "dd"
  refine sAttr_f (isI_ptr hc2.o) T.cl_Table T.n_Table_marked rfl ?_
  walk_at "dd"
  refine ⟨⟨_, isI_ptr hc2.o, T.cl_Table, T.m_Table_order, rfl⟩, ?_⟩
  refine order_reads T hc2 (by omega) fun ms ρ pm as => ?_
  have em := (ord_uniq wt.wt.rk pm as).trans (ord_es wt.wt.rk)
  rw [em]
  dsimp only
  have hc3 : HasT (S2 ++ [.dct (ownersD c.kvs)]) j m c := hc2.app
  generalize hS3 : S2 ++ [Cell.dct (ownersD c.kvs)] = S3 at hc3
  have q' := q ([Cell.dct (c.kvs.map mkE)] ++ [Cell.dct (ownersD c.kvs)])
  rw [← List.append_assoc, hS2, hS3] at q'
  clear em pm as hc2 hat hc q hS2 hS3
  walk_at "dd"
  refine lc_inv (fun i acc S2 => acc = ((esL c.kvs).take i).map (fun e => D.bl e.2.2.1) ∧ i ≤ (esL c.kvs).length ∧ S2 = S3) ⟨rfl, Nat.zero_le _, rfl⟩ ?_ ?_ ?_
  · rintro i acc S2 ⟨rfl, hi, _⟩
    rw [List.length_map, List.length_take, sizeLine_eq]
    omega
  · rintro i x acc S2 X Y hx ⟨rfl, hi, rfl⟩ h1 h2
    rw [List.getElem?_map] at hx
    obtain ⟨e, he, rfl⟩ := Option.map_eq_some_iff.mp hx
    have hm := mem (List.mem_of_getElem? he)
    have hlt := (List.getElem?_eq_some_iff.mp he).1
    have k := wt.wt.key e hm
    have r : inR (.int e.1) 0 FAR = true := inR_i k.1 k.2
    walk_at "dd"
    refine q_meth ⟨_, isI_ptr hc3.o, T.cl_Table, T.m_Table_mark_of, rfl⟩ ?_
    walk_at "dd"
    refine (ok_mark_of T hc3 rfl (fun i' e' ed _ g => ?_) (fun r' => absurd (r.symm.trans r') (by decide)) fun i' ed _ g => ?_).mono (Nat.le_of_ble_eq_true rfl)
    · cases ed
      rw [getE_at wt.wt.nd hm] at g
      cases g
      refine h1 _ _ ⟨?_, hlt, rfl⟩
      rw [List.take_add_one, he, List.map_append] <;> rfl
    · cases ed
      rw [getE_at wt.wt.nd hm] at g
      cases g
  rintro acc S4 ⟨rfl, _, rfl⟩
  rw [List.length_map, List.take_length]
  walk_at "dd"
  refine lc_inv (fun i acc S2 => acc = ((esL c.kvs).take i).map (fun e => D.bl e.2.2.1) ∧ i ≤ (esL c.kvs).length ∧ S2 = S4) ⟨rfl, Nat.zero_le _, rfl⟩ ?_ ?_ ?_
  · rintro i acc S2 ⟨rfl, hi, _⟩
    rw [List.length_map, List.length_take, sizeLine_eq]
    omega
  · rintro i x acc S2 X Y hx ⟨rfl, hi, rfl⟩ h1 h2
    rw [List.getElem?_map] at hx
    obtain ⟨e, he, rfl⟩ := Option.map_eq_some_iff.mp hx
    have hm := mem (List.mem_of_getElem? he)
    have hlt := (List.getElem?_eq_some_iff.mp he).1
    have k := wt.wt.key e hm
    have r : inR (.int e.1) 0 FAR = true := inR_i k.1 k.2
    walk_at "dd"
    refine q_meth ⟨_, isI_ptr hc3.o, T.cl_Table, T.m_Table_mark_of, rfl⟩ ?_
    walk_at "dd"
    refine (ok_mark_ofK T hc3 rfl (fun i' e' ed _ g => ?_) (fun r' => absurd (r.symm.trans r') (by decide)) fun i' ed _ g => ?_).mono (Nat.le_of_ble_eq_true rfl)
    · cases ed
      rw [getE_at wt.wt.nd hm] at g
      cases g
      refine h1 _ _ ⟨?_, hlt, rfl⟩
      rw [List.take_add_one, he, List.map_append] <;> rfl
    · cases ed
      rw [getE_at wt.wt.nd hm] at g
      cases g
  rintro acc S5 ⟨rfl, _, rfl⟩
  rw [List.length_map, List.take_length]
  walk_at "dd"
  refine s_cat ls_v ls_v (by rw [sizeLine_eq]; show 4 + 1 ≤ _; decide) (.inl ?_)
  have sy := saw_y wt
  have ew : sawD c = .lst [.int c.size, .int c.marked, .lst ((esL c.kvs).map fun e => .int e.1), .lst ((esL c.kvs).map fun e => .bl e.2.2.1), .lst ((esL c.kvs).map fun e => .bl e.2.2.1)] := rfl
  refine (show sCall _ _ (.builtin "repr") [] [.v (sawD c)] [] _ _ _ from ?_)
  refine c_reprY sy ?_
  walk_at "dd"
  refine (show sCall (bs P w K mg base) 6 (.builtin "list.count") [] [.v (.lst ((esL c.kvs).map fun e => .bl e.2.2.1)), .v (.bl true)] [] _ _ _ from ?_)
  refine m_countB (bs := (esL c.kvs).map fun e => e.2.2.1) (by rw [List.map_map]; exact ls_v) ?_
  rw [cnt_mks wt]
  walk_at "dd"
  have el : (((c.kvs.map rowE).length : Nat) : Int) = c.size := by rw [List.length_map, wt.wt.sz]
  rw [el]
  refine (show sCall _ _ (.builtin "repr") [] [.v (sawD c)] [] _ _ _ from ?_)
  refine c_reprY sy ?_
  walk_at "dd"
  exact q'
end Toy

set_option Elab.async false
set_option linter.all false
set_option maxRecDepth 100000
set_option maxHeartbeats 1000000
namespace Toy
open PySem PySem.Spec PyProof.Rows L2 My Dt SX
local macro_rules | `(tactic| walk_at "rg") => `(tactic| first
  | omega
  | ((refine And.intro ?_ (And.intro ?_ (And.intro ?_ ?_))) <;> omega))
local macro_rules | `(tactic| walk_at "ls") => `(tactic| first
  | with_reducible exact ls_v
  | with_reducible exact ls_b
  | ((with_reducible refine' ls_p ?hlp); (case hlp => with_reducible assumption)))
local macro_rules | `(tactic| walk_at "start") => `(tactic| ((simp only [startM, startS, List.map_cons, List.map_nil, List.length_cons, List.length_nil, List.cons_append, List.nil_append, Nat.reduceAdd, Nat.reduceSub, List.replicate_succ, List.replicate_zero]); exact rfl))
local macro_rules | `(tactic| walk_at "set") => `(tactic| first
  | ((dsimp only [Int.reduceToNat, List.set_cons_zero, List.set_cons_succ, VO.sl]); done)
  | ((dsimp only [Int.reduceToNat, List.set_cons_zero, List.set_cons_succ, VO.sl]); exact rfl)
  | exact rfl)
local macro_rules | `(tactic| walk_at "sz") => `(tactic| first
  | exact sz_of (Nat.le_of_ble_eq_true rfl)
  | (apply sz_of; simp only [List.length_cons, List.length_nil, List.length_append, List.length_map]; omega))
local macro_rules | `(tactic| walk_at "side") => `(tactic| first
  | with_reducible assumption
  | omega
  | exact ml (by omega) (by omega)
  | exact mr (by omega) (by omega)
  | exact dv (by omega) (by omega)
  | exact Bd.mulOk (by with_reducible assumption) (by with_reducible assumption) (by decide) (by decide) (by decide)
  | exact Bd.div (by with_reducible assumption) (by omega) (by decide) (by decide)
  | (show (0 : Int) < _; omega)
  | exact ⟨by decide, by decide, by decide⟩
  | decide
  | exact rfl)
local macro_rules | `(tactic| walk_at "st") => `(tactic| first
  | with_reducible refine q_seq ?_
  | with_reducible refine q_end ?_
  | with_reducible refine q_nil ?_
  | with_reducible refine q_asg ?_
  | with_reducible refine q_asg2 ?_
  | with_reducible refine q_ret ?_
  | with_reducible refine q_if ?_
  | with_reducible refine q_expr ?_
  | with_reducible refine q_retN ?_
  | with_reducible refine q_sub ?_
  | with_reducible refine q_for ?_
  | with_reducible refine q_del ?_
  | with_reducible refine q_par ?_
  | with_reducible refine q_par3 ?_
  | with_reducible refine q_parV ?_
  | with_reducible refine q_parV3 ?_
  | with_reducible refine q_asgF ?_
  | with_reducible refine q_asgC ?_
  | ((with_reducible refine' q_frz ?ef ?_); (case ef => exact rfl))
  | ((with_reducible refine' q_app ?ea ?eb ?_); (case ea => exact rfl); (case eb => walk_at "slen"))
  | with_reducible refine q_brk ?_
  | with_reducible refine q_cnt ?_
  | with_reducible refine q_fldS ?_
  | with_reducible refine q_fldP ?_
  | with_reducible refine q_raise ?_
  | with_reducible refine q_try ?_)
local macro_rules | `(tactic| walk_at "slen") => `(tactic| first
  | with_reducible assumption
  | ((rw [sizeLine_eq]); (simp only [List.length_cons, List.length_nil, List.length_append, List.length_map]); omega))
local macro_rules | `(tactic| walk_at "sm") => `(tactic| first
  | with_reducible refine s_add ?_
  | with_reducible refine s_sub ?_
  | ((with_reducible refine' s_mul ?hm ?_); (case hm => walk_at "side"))
  | ((with_reducible refine' s_fdiv ?hm ?_); (case hm => walk_at "side"))
  | ((with_reducible refine' s_mod ?hm ?_); (case hm => walk_at "side"))
  | with_reducible refine s_neg ?_
  | ((with_reducible refine' s_pow ?hm ?_); (case hm => walk_at "side"))
  | ((with_reducible refine' s_ixL ?hl ?he ?_); (case hl => walk_at "ls"); (case he => exact rfl))
  | ((with_reducible refine' s_ixT ?he ?_); (case he => exact rfl))
  | ((with_reducible refine' set_L2 ?ha ?hb ?hc ?_); (case ha => with_reducible assumption); (case hb => exact rfl); (case hc => walk_at "set"))
  | with_reducible refine s_addB ?_
  | with_reducible refine s_lt ?_
  | with_reducible refine s_le ?_
  | with_reducible refine s_gt ?_
  | with_reducible refine s_ge ?_
  | with_reducible refine s_eq ?_
  | with_reducible refine s_ne ?_
  | ((with_reducible refine' s_neSame ?he ?_); (case he => with_reducible rfl))
  | ((with_reducible refine' s_eqSame ?he ?_); (case he => with_reducible rfl))
  | with_reducible refine s_eqS ?_
  | with_reducible refine s_neS ?_
  | with_reducible refine s_isN ?_
  | with_reducible refine s_isNotN ?_
  | with_reducible refine t_bl ?_)
local macro_rules | `(tactic| walk_at "cl") => `(tactic| first
  | with_reducible refine c_int ?_
  | with_reducible refine c_intB ?_
  | with_reducible refine c_abs ?_
  | ((with_reducible refine' c_max ?hm ?_); (case hm => exact rfl))
  | ((with_reducible refine' c_min ?hm ?_); (case hm => exact rfl))
  | ((with_reducible refine' c_divmod ?hm ?_); (case hm => walk_at "side"))
  | ((with_reducible refine' c_len ?hm ?_); (case hm => walk_at "sq"))
  | ((with_reducible refine' c_list ?hm ?_); (case hm => walk_at "sq"))
  | ((with_reducible refine' c_tuple ?hm ?_); (case hm => walk_at "sq")))
local macro_rules | `(tactic| walk_at "sq") => `(tactic| first
  | exact sqL
  | exact sqT
  | exact sqB
  | exact sqP (by with_reducible assumption))
local macro_rules | `(tactic| walk_at "v") => `(tactic| first
  | ((with_reducible refine' v_sh ?ev ?_); (case ev => exact rfl))
  | ((with_reducible refine' v_ol ?ev ?_); (case ev => exact rfl))
  | ((with_reducible refine' v_slf ?ev ?_); (case ev => exact rfl))
  | with_reducible refine q_val ?_
  | ((with_reducible refine' q_walk ?ew ?_); (case ew => exact rfl))
  | ((with_reducible refine' q_rng1 ?ej ?ek ?_); (case ej => walk_at "rg"); (case ek => walk_at "rg"))
  | ((with_reducible refine' q_rng2 ?ej ?_); (case ej => walk_at "rg"))
  | with_reducible refine q_rngL ?_
  | with_reducible refine q_solc ?_
  | with_reducible refine q_sol0 ?_
  | ((with_reducible refine' q_gname ?eg ?_); (case eg => walk_at "set"))
  | ((with_reducible refine' n_set ?eg ?_); (case eg => walk_at "set"))
  | ((with_reducible refine' n_set2 ?eg ?_); (case eg => walk_at "set"))
  | ((with_reducible refine' n_set3 ?eg ?_); (case eg => walk_at "set"))
  | with_reducible refine q_two ?_
  | with_reducible refine q_three ?_
  | with_reducible refine q_vv ?_
  | with_reducible refine q_isS ?_
  | with_reducible refine q_isL ?_
  | with_reducible refine q_twoV ?_
  | with_reducible refine q_threeV ?_
  | with_reducible refine q_bl ?_
  | with_reducible refine q_oint ?_
  | ((with_reducible refine' q_gtup ?el ?_); (case el => exact rfl))
  | with_reducible refine q_gcons ?_
  | with_reducible refine q_gnil ?_
  | with_reducible refine i_t ?_
  | with_reducible refine i_f ?_
  | with_reducible refine i_nt ?_
  | with_reducible refine i_nf ?_
  | ((with_reducible refine' n_t ?en ?_); (case en => exact rfl))
  | ((with_reducible refine' n_f ?en ?_); (case en => exact rfl))
  | ((with_reducible refine' nn_t ?en ?_); (case en => exact rfl))
  | ((with_reducible refine' nn_f ?en ?_); (case en => exact rfl))
  | with_reducible refine And.intro (by walk_at "sz") ?_)
local macro_rules | `(tactic| walk_at "d") => `(tactic| first
  | walk_at "v"
  | walk_at "st"
  | walk_at "sm"
  | walk_at "cl"
  | walk_at "at")
local macro_rules | `(tactic| walk_at "dd") => `(tactic| repeat walk_at "d")
local macro_rules | `(tactic| walk_at "tx") => `(tactic| simp only [l_dash, l_dot, l_nil, l_space, l_figs, l_signs])

variable {P : Program} {w : World} {K : PySem.W.Frag} {mg : Str → Option Value} {base : Heap} {S : Sto} {Ex : XS} {Q : QO}

/-- two tables, behind i turns -/
structure TwoT (S : Sto) (n j1 m1 j2 m2 i : Nat) (S' : Sto) (ca cb : Tab) : Prop where
  ha : HasT S' j1 m1 ca
  hb : HasT S' j2 m2 cb
  wa : WT ca
  wb : WT cb
  la : ca.kvs.length ≤ i
  lb : cb.kvs.length ≤ i
  s : Strm S' n
  kp : ∀ i x, i ≠ n → S[i]? = some x → S'[i]? = some x
theorem TwoT.app {S S' z : Sto} {n j1 m1 j2 m2 i : Nat} {ca cb : Tab} (t : TwoT S n j1 m1 j2 m2 i S' ca cb) : TwoT S n j1 m1 j2 m2 i (S' ++ z) ca cb :=
  ⟨t.ha.app, t.hb.app, t.wa, t.wb, t.la, t.lb, t.s.app, fun i x hi e => by
    have e2 := t.kp i x hi e
    rw [List.getElem?_append_left (List.getElem?_eq_some_iff.mp e2).1]
    exact e2⟩
theorem ok_right (T : Tx K mg) {n : Nat} (h : Strm S n) {t1 t2 t3 : Nat} {P1 P2 TBp : Addr} (TB1 : LamX.TabB base mg (He.codeOf K ("_law_put_step", none)) P1) (g1 : S[t1]? = some (.tbl P1 (lamQ "_law_put_step"))) (n1 : t1 ≠ n) (TB2 : LamX.TabB base mg (He.codeOf K ("_law_step", none)) P2) (g2 : S[t2]? = some (.tbl P2 (lamQ "_law_step"))) (n2 : t2 ≠ n)
    (TB : LamX.TabB base mg (He.codeOf K ("_law_right", none)) TBp) (g3 : S[t3]? = some (.tbl TBp (lamQ "_law_right"))) (n3 : t3 ≠ n) (q : ∀ S', (∀ i x, i ≠ n → S[i]? = some x → S'[i]? = some x) → Q (.v (.bl true)) S') :
    sFun (bs P w K mg base) 13 (.ref (He.ga K "_law_right")) [] [.ptr n] [] S Ex Q := by
  refine' call_dc (B := bs P w K mg base) 12 (Classical.choose_spec T.d_law_right) sc_law_right rfl (bm_all (ps := ["_law_stream_here"]) (Classical.choose_spec T.d_law_right) (fun _ _ _ _ _ _ us hl => match us, hl with | [_], _ => rfl)) (dss_cons (ds_asgS (de_tup (da_cons (de_call0 rfl rfl ⟨T.g_Table, T.mk_Table.kp⟩) (da_cons (de_call0 rfl rfl ⟨T.g_Table, T.mk_Table.kp⟩) (da_cons (de_lstV da_nil) (da_cons (de_lstV da_nil) da_nil))))) (dg_tup (n := 4) rfl (dgs_cons (dgn 1) (dgs_cons (dgn 2) (dgs_cons (dgn 3) (dgs_cons (dgn 4) dgs_nil))))) (fun env h => by cases env; cases h; rfl)) (dss_cons (ds_if (DW.dt (dw_or (dt_not (dt_val (de_call rfl rfl ⟨T.g_law_fits, (Classical.choose_spec T.d_law_fits).kp⟩ (da_cons (dv 1) (da_cons (de_lstV da_nil) da_nil))))) (dw_or (dt_not (dt_val (dv 1))) (dw_or1 (dt_cmp (dv 1) (dv 2)))))) (dss_one (ds_ret de_bl)) dss_nil) (dss_cons (ds_for rfl rfl (di_range1 rfl T.f_range (da_cons de_int da_nil)) (dgn 5) (dss_cons (dst 6 de_bl) (dss_cons (ds_if (dt_cmp (de_call rfl rfl ⟨T.g_law_draw, (Classical.choose_spec T.d_law_draw).kp⟩ (da_cons (dv 0) (da_cons de_int da_nil))) de_int) (dss_one (ds_asg (de_call rfl rfl ⟨T.g_law_step, (Classical.choose_spec T.d_law_step).kp⟩ (da_cons (dv 0) (da_cons (dv 1) (da_cons (dv 3) da_nil)))) (dg_tup (n := 2) rfl (dgs_cons (dgn 3) (dgs_cons (dgn 6) dgs_nil))))) (dss_one (ds_asg (de_call rfl rfl ⟨T.g_law_step, (Classical.choose_spec T.d_law_step).kp⟩ (da_cons (dv 0) (da_cons (dv 2) (da_cons (dv 4) da_nil)))) (dg_tup (n := 2) rfl (dgs_cons (dgn 4) (dgs_cons (dgn 6) dgs_nil)))))) (dss_one (ds_if (DW.dt (dw_or (dt_not (dt_val (dv 6))) (dw_or1 (DW.dt (dw_and (dt_cmp (de_call rfl rfl ⟨T.g_law_draw, (Classical.choose_spec T.d_law_draw).kp⟩ (da_cons (dv 0) (da_cons de_int da_nil))) de_int) (dw_and1 (dt_not (dt_val (de_call rfl rfl ⟨T.g_law_fits, (Classical.choose_spec T.d_law_fits).kp⟩ (da_cons (dv 1) (da_cons (dv 3) da_nil))))))))))) (dss_one (ds_ret de_bl)) dss_nil))))) (dss_cons (dst 7 (de_bin (de_bin de_int de_int) de_int)) (dss_cons (dst 8 (de_lamc (k := 8) (Nat.le_of_ble_eq_true rfl) rfl rfl T.g_law_caught (Classical.choose_spec T.d_law_caught) (bn_law_caught T) sc_law_caught TB (fun _ en h => axC_at (en := en) h) (show LamX.LamS (defScope s_law_right) _ from LamX.lamS_by (by decide +kernel)) (de_me rfl (dv 2) (da_cons (dv 7) da_nil)) (fun A => (caughtR (k := 8) T).2 A))) (dss_cons (ds_if (DW.dt (dw_and (dt_val (de_callB (id := "all") rfl T.f_all (by decide +kernel) (da_cons (DF.de (df_lc (own := [("_law_row", 9)]) rfl (by decide) (di_val (dv 4)) (blkOk_by (N := ["_law_stream_here", "_law_one", "_law_two", "_law_rows", "_law_more", "_law_turn", "_law_fine", "_law_tag_here", "_law_told", "_law_row"]) (sc := defScope s_law_right) (by decide +kernel)) (dgn 9) dts_nil (de_cmp (de_ix (dv 9) de_int (fun _ _ => rfl)) (dv 7)))) da_nil))) (dw_and1 (dt_cmp (dv 8) (de_tup (da_cons de_str (da_cons (de_callB (id := "repr") rfl T.f_repr (by decide +kernel) (da_cons (dv 7) da_nil)) da_nil))))))) (dss_one (ds_ret de_bl)) dss_nil) (dss_one (ds_ret (de_and (de_call rfl rfl ⟨T.g_law_fits, (Classical.choose_spec T.d_law_fits).kp⟩ (da_cons (dv 1) (da_cons (dv 3) da_nil))) (de_one (de_call rfl rfl ⟨T.g_law_fits, (Classical.choose_spec T.d_law_fits).kp⟩ (da_cons (dv 2) (da_cons (dv 4) da_nil))))))))))))) ⟨rfl, rfl⟩ ?st ?_
  case st => walk_at "start"
  walk_at "dd"
  refine (ok_Table T fun S1 es1 => ?_).mono (Nat.le_of_ble_eq_true rfl)
  walk_at "dd"
  refine (ok_Table T fun S2 es2 => ?_).mono (Nat.le_of_ble_eq_true rfl)
  have hn := h.lt
  have l1 : S1.length = S.length + 2 := by rw [es1]; simp
  have ha : HasT S2 (S.length + 1) S.length newT := by
    rw [es2, List.append_assoc]
    refine HasT.app ⟨?_, ?_⟩
    · rw [es1]; simp
    · rw [es1]; simp; rfl
  have hb : HasT S2 (S1.length + 1) S1.length newT := ⟨by rw [es2]; simp, by rw [es2]; simp; rfl⟩
  have hs : Strm S2 n := by rw [es2, List.append_assoc, es1, List.append_assoc, List.append_assoc]; exact h.app
  have kp : ∀ i x, i ≠ n → S[i]? = some x → S2[i]? = some x := fun i x _ e => by
    rw [es2, List.append_assoc, es1, List.append_assoc, List.append_assoc, List.getElem?_append_left (List.getElem?_eq_some_iff.mp e).1]
    exact e
  rw [l1] at hb ⊢
  clear es1 es2 l1 h
  have wn : WT newT := ⟨⟨List.nodup_nil, List.nodup_nil, fun e he => (by cases he), by decide, rfl, rfl⟩, fun e he => (by cases he)⟩
  have o1 : S.length + 1 ≠ n := by omega
  have o2 : S.length ≠ n := by omega
  have o3 : S.length + 2 + 1 ≠ n := by omega
  have o4 : S.length + 2 ≠ n := by omega
  walk_at "dd"
  refine (ok_fits T ha wn fun z => ?_).mono (Nat.le_of_ble_eq_true rfl)
  replace ha := ha.app (c := z)
  replace hb := hb.app (c := z)
  replace hs := hs.app (c := z)
  replace kp : ∀ i x, i ≠ n → S[i]? = some x → (S2 ++ z)[i]? = some x := fun i x hi e => by
    have e2 := kp i x hi e
    rw [List.getElem?_append_left (List.getElem?_eq_some_iff.mp e2).1]
    exact e2
  generalize S2 ++ z = S3 at *
  walk_at "dd"
  refine t_id (isI_ptr ha.o) T.id_Table ?_
  walk_at "dd"
  refine s_idEq rfl ha.o hb.o (by omega) T.id_Table ?_
  walk_at "dd"
  refine loop_inv (fun i ρ S' => ∃ ca cb : Tab, TwoT S n (S.length + 1) S.length (S.length + 2 + 1) (S.length + 2) i S' ca cb ∧ ∃ x5 x6 : Sl, ρ = [.sh (.ptr n), .sh (.ptr (S.length + 1)), .sh (.ptr (S.length + 2 + 1)), .sh (rowsE ca.kvs), .sh (rowsE cb.kvs), x5, x6, .un, .un, .un]) ⟨newT, newT, ⟨ha, hb, wn, wn, by decide, by decide, hs, kp⟩, _, _, rfl⟩ ?_ ?_
  · clear ha hb hs kp wn S3
    rintro i x ρ S' Nx hx ⟨ca, cb, t, x5, x6, rfl⟩ hN
    obtain ⟨hi, rfl⟩ := rngD_at hx
    have hi : i < 10 := hi
    obtain ⟨ha, hb, wa, wb, la, lb, hs, kp⟩ := t
    rw [Int.zero_add]
    have lt : ∀ {t : Nat} {X : Cell}, S[t]? = some X → t < S.length := fun h => (List.getElem?_eq_some_iff.mp h).1
    walk_at "dd"
    refine (ok_draw T hs (by decide) (by decide) fun v S4 v0 v1 h4 b4 => ?_).mono (Nat.le_of_ble_eq_true rfl)
    replace ha : HasT S4 (S.length + 1) S.length ca := ⟨(b4.at_ _ o1).trans ha.o, (b4.at_ _ o2).trans ha.d⟩
    replace hb : HasT S4 (S.length + 2 + 1) (S.length + 2) cb := ⟨(b4.at_ _ o3).trans hb.o, (b4.at_ _ o4).trans hb.d⟩
    replace kp : ∀ i x, i ≠ n → S[i]? = some x → S4[i]? = some x := fun i x hi e => (b4.at_ _ hi).trans (kp i x hi e)
    clear hs b4
    walk_at "dd"
    refine j_S (α := Tab × Tab) (fun a S' => TwoT S n (S.length + 1) S.length (S.length + 2 + 1) (S.length + 2) (i + 1) S' a.1 a.2) (fun a => [.sh (.ptr n), .sh (.ptr (S.length + 1)), .sh (.ptr (S.length + 2 + 1)), .sh (rowsE a.1.kvs), .sh (rowsE a.2.kvs), .sh (.int i), .sh (.bl true), .un, .un, .un]) ?_ (fun Nx k c1 => ?_) fun Nx k c1 => ?_
    rotate_left
    · walk_at "dd"
      refine (ok_step T h4 ha o1 o2 wa (by omega) TB1 (kp _ _ n1 g1) n1 TB2 (kp _ _ n2 g2) n2 fun S5 c' st => ?_).mono (Nat.le_of_ble_eq_true rfl)
      walk_at "dd"
      refine k (c', cb) _ ⟨st.h, ⟨st.k _ _ o3 (by omega) (by omega) hb.o, st.k _ _ o4 (by omega) (by omega) hb.d⟩, st.w, wb, ?_, ?_, st.s, fun i x hi e => st.k i x hi ?_ ?_ (kp i x hi e)⟩
      · have := st.l
        show c'.kvs.length ≤ i + 1
        omega
      · show cb.kvs.length ≤ i + 1
        omega
      · have := lt e
        omega
      · have := lt e
        omega
    · walk_at "dd"
      refine (ok_step T h4 hb o3 o4 wb (by omega) TB1 (kp _ _ n1 g1) n1 TB2 (kp _ _ n2 g2) n2 fun S5 c' st => ?_).mono (Nat.le_of_ble_eq_true rfl)
      walk_at "dd"
      refine k (ca, c') _ ⟨⟨st.k _ _ o1 (by omega) (by omega) ha.o, st.k _ _ o2 (by omega) (by omega) ha.d⟩, st.h, wa, st.w, ?_, ?_, st.s, fun i x hi e => st.k i x hi ?_ ?_ (kp i x hi e)⟩
      · show ca.kvs.length ≤ i + 1
        omega
      · have := st.l
        show c'.kvs.length ≤ i + 1
        omega
      · have := lt e
        omega
      · have := lt e
        omega
    clear ha hb wa wb la lb kp h4 S4 ca cb
    rintro ⟨ca, cb⟩ S4 t
    walk_at "dd"
    refine (ok_draw T t.s (by decide) (by decide) fun v S5 v0 v1 h5 b5 => ?_).mono (Nat.le_of_ble_eq_true rfl)
    have t5 : TwoT S n (S.length + 1) S.length (S.length + 2 + 1) (S.length + 2) (i + 1) S5 ca cb := ⟨⟨(b5.at_ _ o1).trans t.ha.o, (b5.at_ _ o2).trans t.ha.d⟩, ⟨(b5.at_ _ o3).trans t.hb.o, (b5.at_ _ o4).trans t.hb.d⟩, t.wa, t.wb, t.la, t.lb, h5, fun i x hi e => (b5.at_ _ hi).trans (t.kp i x hi e)⟩
    walk_at "dd"
    refine i_two (fun c1 => ?_) fun c1 => ?_
    · walk_at "dd"
      refine (ok_fits T t5.ha t5.wa fun z => ?_).mono (Nat.le_of_ble_eq_true rfl)
      walk_at "dd"
      exact hN _ _ ⟨ca, cb, t5.app, _, _, rfl⟩
    · walk_at "dd"
      exact hN _ _ ⟨ca, cb, t5, _, _, rfl⟩
  · clear ha hb hs kp wn S3
    rintro ρ S3 ⟨ca, cb, t, x5, x6, rfl⟩
    have lt : ∀ {t : Nat} {X : Cell}, S[t]? = some X → t < S.length := fun h => (List.getElem?_eq_some_iff.mp h).1
    walk_at "dd"
    rw [show (10 : Int) ^ 9 - 7 = 999999993 from rfl]
    have f9 := inR_i (i := 999999993) (by omega) (by omega)
    have gk := gv_key (i := 999999993) (by omega) (by omega)
    refine ⟨⟨t3, t.kp _ _ n3 g3⟩, fun A hA => ok_caughtP T rfl (fun t S' => ((getE cb.kvs 999999993 = none ∧ t = errS "UnknownRow" (shY (.int 999999993))) ∨ (getE cb.kvs 999999993).isSome = true) ∧ S' = S3) ?_ fun Ex' Q' hE hQ => ?_⟩
    rotate_left
    · rw [hA]
      walk_at "dd"
      refine q_meth ⟨_, isI_ptr t.hb.o, T.cl_Table, T.m_Table_mark_of, rfl⟩ ?_
      walk_at "dd"
      refine (ok_mark_of T t.hb rfl (fun i' e ed _ g => ?_) (fun r' => absurd (f9.symm.trans r') (by decide)) fun i' ed _ g => ?_).mono (Nat.le_of_ble_eq_true rfl)
      · cases ed
        exact ⟨_, rfl, hQ _ _ (gv_bl _).y ⟨.inr (by rw [g] <;> rfl), rfl⟩⟩
      · cases ed
        exact hE _ _ _ _ .UnknownRow gk.y ⟨.inl ⟨g, rfl⟩, rfl⟩
    rintro told S4 ⟨hcase, rfl⟩
    have fewb := t.wb.wt.few
    walk_at "dd"
    refine lc_pure (fun _ => true) (neK 999999993) (by rw [List.length_map]; omega) (fun z hz X Y h1 h3 => ?_) ?_
    · obtain ⟨e, hp, rfl⟩ := List.mem_map.mp hz
      replace h1 : X (.v (.bl (!decide (e.1 = 999999993)))) _ := h1 rfl
      walk_at "dd"
      exact h1
    rw [lc_neK]
    walk_at "dd"
    refine (show sCall _ _ (.builtin "all") [] [.v (.lst ((cb.kvs.map fun (e : Ent) => !decide (e.1 = 999999993)).map .bl))] [] _ _ _ from ?_)
    refine c_all rfl ls_v ?_
    rw [all_neK]
    have kz : ∀ z z2 : Sto, ∀ i x, i ≠ n → S[i]? = some x → (S4 ++ z ++ z2)[i]? = some x := fun z z2 i x hi e => by
      have e4 := t.kp i x hi e
      have l4 := (List.getElem?_eq_some_iff.mp e4).1
      rw [List.append_assoc, List.getElem?_append_left l4]
      exact e4
    have two := two_err (C := "UnknownRow") (asc_of (by decide)) gk.a
    rcases hcase with ⟨g, rfl⟩ | g
    · rw [g, show (!(none : Option (Int × Bool × Int)).isSome) = true from rfl]
      walk_at "dd"
      refine c_reprY gk.y ?_
      walk_at "dd"
      refine ne_two two ?_
      walk_at "dd"
      refine (ok_fits T t.ha t.wa fun z => ?_).mono (Nat.le_of_ble_eq_true rfl)
      walk_at "dd"
      refine (ok_fits T t.hb.app t.wb fun z2 => ?_).mono (Nat.le_of_ble_eq_true rfl)
      walk_at "dd"
      exact q _ (kz z z2)
    · rw [g, show (!true) = false from rfl]
      walk_at "dd"
      refine (ok_fits T t.ha t.wa fun z => ?_).mono (Nat.le_of_ble_eq_true rfl)
      walk_at "dd"
      refine (ok_fits T t.hb.app t.wb fun z2 => ?_).mono (Nat.le_of_ble_eq_true rfl)
      walk_at "dd"
      exact q _ (kz z z2)
end Toy

set_option Elab.async false
set_option linter.all false
set_option maxRecDepth 100000
set_option maxHeartbeats 1000000
namespace Toy
open PySem PySem.Spec PyProof.Rows L2 My Dt SX
local macro_rules | `(tactic| walk_at "rg") => `(tactic| first
  | omega
  | ((refine And.intro ?_ (And.intro ?_ (And.intro ?_ ?_))) <;> omega))
local macro_rules | `(tactic| walk_at "ls") => `(tactic| first
  | with_reducible exact ls_v
  | with_reducible exact ls_b
  | ((with_reducible refine' ls_p ?hlp); (case hlp => with_reducible assumption)))
local macro_rules | `(tactic| walk_at "start") => `(tactic| ((simp only [startM, startS, List.map_cons, List.map_nil, List.length_cons, List.length_nil, List.cons_append, List.nil_append, Nat.reduceAdd, Nat.reduceSub, List.replicate_succ, List.replicate_zero]); exact rfl))
local macro_rules | `(tactic| walk_at "set") => `(tactic| first
  | ((dsimp only [Int.reduceToNat, List.set_cons_zero, List.set_cons_succ, VO.sl]); done)
  | ((dsimp only [Int.reduceToNat, List.set_cons_zero, List.set_cons_succ, VO.sl]); exact rfl)
  | exact rfl)
local macro_rules | `(tactic| walk_at "sz") => `(tactic| first
  | exact sz_of (Nat.le_of_ble_eq_true rfl)
  | (apply sz_of; simp only [List.length_cons, List.length_nil, List.length_append, List.length_map]; omega))
local macro_rules | `(tactic| walk_at "side") => `(tactic| first
  | with_reducible assumption
  | omega
  | exact ml (by omega) (by omega)
  | exact mr (by omega) (by omega)
  | exact dv (by omega) (by omega)
  | exact Bd.mulOk (by with_reducible assumption) (by with_reducible assumption) (by decide) (by decide) (by decide)
  | exact Bd.div (by with_reducible assumption) (by omega) (by decide) (by decide)
  | (show (0 : Int) < _; omega)
  | exact ⟨by decide, by decide, by decide⟩
  | decide
  | exact rfl)
local macro_rules | `(tactic| walk_at "st") => `(tactic| first
  | with_reducible refine q_seq ?_
  | with_reducible refine q_end ?_
  | with_reducible refine q_nil ?_
  | with_reducible refine q_asg ?_
  | with_reducible refine q_asg2 ?_
  | with_reducible refine q_ret ?_
  | with_reducible refine q_if ?_
  | with_reducible refine q_expr ?_
  | with_reducible refine q_retN ?_
  | with_reducible refine q_sub ?_
  | with_reducible refine q_for ?_
  | with_reducible refine q_del ?_
  | with_reducible refine q_par ?_
  | with_reducible refine q_par3 ?_
  | with_reducible refine q_parV ?_
  | with_reducible refine q_parV3 ?_
  | with_reducible refine q_asgF ?_
  | with_reducible refine q_asgC ?_
  | ((with_reducible refine' q_frz ?ef ?_); (case ef => exact rfl))
  | ((with_reducible refine' q_app ?ea ?eb ?_); (case ea => exact rfl); (case eb => walk_at "slen"))
  | with_reducible refine q_brk ?_
  | with_reducible refine q_cnt ?_
  | with_reducible refine q_fldS ?_
  | with_reducible refine q_fldP ?_
  | with_reducible refine q_raise ?_
  | with_reducible refine q_try ?_)
local macro_rules | `(tactic| walk_at "slen") => `(tactic| first
  | with_reducible assumption
  | ((rw [sizeLine_eq]); (simp only [List.length_cons, List.length_nil, List.length_append, List.length_map]); omega))
local macro_rules | `(tactic| walk_at "sm") => `(tactic| first
  | with_reducible refine s_add ?_
  | with_reducible refine s_sub ?_
  | ((with_reducible refine' s_mul ?hm ?_); (case hm => walk_at "side"))
  | ((with_reducible refine' s_fdiv ?hm ?_); (case hm => walk_at "side"))
  | ((with_reducible refine' s_mod ?hm ?_); (case hm => walk_at "side"))
  | with_reducible refine s_neg ?_
  | ((with_reducible refine' s_pow ?hm ?_); (case hm => walk_at "side"))
  | ((with_reducible refine' s_ixL ?hl ?he ?_); (case hl => walk_at "ls"); (case he => exact rfl))
  | ((with_reducible refine' s_ixT ?he ?_); (case he => exact rfl))
  | ((with_reducible refine' set_L2 ?ha ?hb ?hc ?_); (case ha => with_reducible assumption); (case hb => exact rfl); (case hc => walk_at "set"))
  | with_reducible refine s_addB ?_
  | with_reducible refine s_lt ?_
  | with_reducible refine s_le ?_
  | with_reducible refine s_gt ?_
  | with_reducible refine s_ge ?_
  | with_reducible refine s_eq ?_
  | with_reducible refine s_ne ?_
  | ((with_reducible refine' s_neSame ?he ?_); (case he => with_reducible rfl))
  | ((with_reducible refine' s_eqSame ?he ?_); (case he => with_reducible rfl))
  | with_reducible refine s_eqS ?_
  | with_reducible refine s_neS ?_
  | with_reducible refine s_isN ?_
  | with_reducible refine s_isNotN ?_
  | with_reducible refine t_bl ?_)
local macro_rules | `(tactic| walk_at "cl") => `(tactic| first
  | with_reducible refine c_int ?_
  | with_reducible refine c_intB ?_
  | with_reducible refine c_abs ?_
  | ((with_reducible refine' c_max ?hm ?_); (case hm => exact rfl))
  | ((with_reducible refine' c_min ?hm ?_); (case hm => exact rfl))
  | ((with_reducible refine' c_divmod ?hm ?_); (case hm => walk_at "side"))
  | ((with_reducible refine' c_len ?hm ?_); (case hm => walk_at "sq"))
  | ((with_reducible refine' c_list ?hm ?_); (case hm => walk_at "sq"))
  | ((with_reducible refine' c_tuple ?hm ?_); (case hm => walk_at "sq")))
local macro_rules | `(tactic| walk_at "sq") => `(tactic| first
  | exact sqL
  | exact sqT
  | exact sqB
  | exact sqP (by with_reducible assumption))
local macro_rules | `(tactic| walk_at "v") => `(tactic| first
  | ((with_reducible refine' v_sh ?ev ?_); (case ev => exact rfl))
  | ((with_reducible refine' v_ol ?ev ?_); (case ev => exact rfl))
  | ((with_reducible refine' v_slf ?ev ?_); (case ev => exact rfl))
  | with_reducible refine q_val ?_
  | ((with_reducible refine' q_walk ?ew ?_); (case ew => exact rfl))
  | ((with_reducible refine' q_rng1 ?ej ?ek ?_); (case ej => walk_at "rg"); (case ek => walk_at "rg"))
  | ((with_reducible refine' q_rng2 ?ej ?_); (case ej => walk_at "rg"))
  | with_reducible refine q_rngL ?_
  | with_reducible refine q_solc ?_
  | with_reducible refine q_sol0 ?_
  | ((with_reducible refine' q_gname ?eg ?_); (case eg => walk_at "set"))
  | ((with_reducible refine' n_set ?eg ?_); (case eg => walk_at "set"))
  | ((with_reducible refine' n_set2 ?eg ?_); (case eg => walk_at "set"))
  | ((with_reducible refine' n_set3 ?eg ?_); (case eg => walk_at "set"))
  | with_reducible refine q_two ?_
  | with_reducible refine q_three ?_
  | with_reducible refine q_vv ?_
  | with_reducible refine q_isS ?_
  | with_reducible refine q_isL ?_
  | with_reducible refine q_twoV ?_
  | with_reducible refine q_threeV ?_
  | with_reducible refine q_bl ?_
  | with_reducible refine q_oint ?_
  | ((with_reducible refine' q_gtup ?el ?_); (case el => exact rfl))
  | with_reducible refine q_gcons ?_
  | with_reducible refine q_gnil ?_
  | with_reducible refine i_t ?_
  | with_reducible refine i_f ?_
  | with_reducible refine i_nt ?_
  | with_reducible refine i_nf ?_
  | ((with_reducible refine' n_t ?en ?_); (case en => exact rfl))
  | ((with_reducible refine' n_f ?en ?_); (case en => exact rfl))
  | ((with_reducible refine' nn_t ?en ?_); (case en => exact rfl))
  | ((with_reducible refine' nn_f ?en ?_); (case en => exact rfl))
  | with_reducible refine And.intro (by walk_at "sz") ?_)
local macro_rules | `(tactic| walk_at "d") => `(tactic| first
  | walk_at "v"
  | walk_at "st"
  | walk_at "sm"
  | walk_at "cl"
  | walk_at "at")
local macro_rules | `(tactic| walk_at "dd") => `(tactic| repeat walk_at "d")
local macro_rules | `(tactic| walk_at "tx") => `(tactic| simp only [l_dash, l_dot, l_nil, l_space, l_figs, l_signs])

variable {P : Program} {w : World} {K : PySem.W.Frag} {mg : Str → Option Value} {base : Heap} {S : Sto} {Ex : XS} {Q : QO}

theorem ok_law (T : Tx K mg) {P1 P2 P3 : Addr} (TB1 : LamX.TabB base mg (He.codeOf K ("_law_put_step", none)) P1) (g1 : S[0]? = some (.tbl P1 (lamQ "_law_put_step"))) (TB2 : LamX.TabB base mg (He.codeOf K ("_law_step", none)) P2) (g2 : S[1]? = some (.tbl P2 (lamQ "_law_step"))) (TB3 : LamX.TabB base mg (He.codeOf K ("_law_right", none)) P3) (g3 : S[2]? = some (.tbl P3 (lamQ "_law_right"))) {ns : List Int} (hl : ns.length ≤ 63) : sFun (bs P w K mg base) 14 (.ref (He.ga K "law")) [] [.lsk (ns.map .int)] [] S noX (fun o _ => o = .v (.bl true)) := by
  refine' call_d (B := bs P w K mg base) 13 (Classical.choose_spec T.d_law) sc_law rfl (bm_all (ps := ["_law_script"]) (Classical.choose_spec T.d_law) (fun _ _ _ _ _ _ us hl => match us, hl with | [_], _ => rfl)) (dss_one (ds_ret (de_callB (id := "all") rfl T.f_all (by decide +kernel) (da_cons (DF.de (df_lc (own := [("_law_at", 1)]) rfl (by decide) (di_range1 rfl T.f_range (da_cons (de_callB (id := "max") rfl T.f_max (by decide +kernel) (da_cons de_int (da_cons (de_callB (id := "min") rfl T.f_min (by decide +kernel) (da_cons (de_callB (id := "len") rfl T.f_len (by decide +kernel) (da_cons (dv 0) da_nil)) (da_cons de_int da_nil))) da_nil))) da_nil)) (blkOk_by (N := ["_law_script", "_law_at"]) (sc := defScope s_law) (by decide +kernel)) (dgn 1) dts_nil (de_call rfl rfl ⟨T.g_law_right, (Classical.choose_spec T.d_law_right).kp⟩ (da_cons (de_call rfl rfl ⟨T.g_law_stream, (Classical.choose_spec T.d_law_stream).kp⟩ (da_cons (dv 0) (da_cons (dv 1) da_nil))) da_nil)))) da_nil)))) ⟨rfl, rfl⟩ ?st ?_
  case st => walk_at "start"
  walk_at "dd"
  refine c_lenX ?_
  rw [List.length_map]
  walk_at "dd"
  have h1 : ∃ m : Int, m = (if (if (4 : Int) < (ns.length : Int) then 4 else (ns.length : Int)) > 2 then (if (4 : Int) < (ns.length : Int) then 4 else (ns.length : Int)) else 2) ∧ 0 ≤ m ∧ m ≤ 4 := ⟨_, rfl, by split <;> split at * <;> omega, by split <;> split at * <;> omega⟩
  obtain ⟨m', em, m0, m1⟩ := h1
  rw [← em]
  clear em
  walk_at "dd"
  refine lc_inv (fun i acc S' => acc = List.replicate i (.bl true) ∧ i ≤ 4 ∧ S'[0]? = some (.tbl P1 (lamQ "_law_put_step")) ∧ S'[1]? = some (.tbl P2 (lamQ "_law_step")) ∧ S'[2]? = some (.tbl P3 (lamQ "_law_right"))) ⟨rfl, by decide, g1, g2, g3⟩ ?_ ?_ ?_
  · rintro i acc S' ⟨rfl, i4, _⟩
    rw [List.length_replicate, sizeLine_eq]
    omega
  · rintro i x acc S' X Y hx ⟨rfl, i4, e1, e2, e3⟩ h1 h2
    obtain ⟨hi, rfl⟩ := rngD_at hx
    rw [Int.zero_add]
    walk_at "dd"
    refine (ok_stream T hl (by omega) fun c2 hs => ?_).mono (Nat.le_of_ble_eq_true rfl)
    walk_at "dd"
    have l1 := (List.getElem?_eq_some_iff.mp e1).1
    have l2 := (List.getElem?_eq_some_iff.mp e2).1
    have l3 := (List.getElem?_eq_some_iff.mp e3).1
    have e3' : (S' ++ [c2])[2]? = some (.tbl P3 (lamQ "_law_right")) := by rw [List.getElem?_append_left l3]; exact e3
    have e1' : (S' ++ [c2])[0]? = some (.tbl P1 (lamQ "_law_put_step")) := by rw [List.getElem?_append_left l1]; exact e1
    have e2' : (S' ++ [c2])[1]? = some (.tbl P2 (lamQ "_law_step")) := by rw [List.getElem?_append_left l2]; exact e2
    refine (ok_right T hs TB1 e1' (by omega) TB2 e2' (by omega) TB3 e3' (by omega) fun S2 x2 => ?_).mono (Nat.le_of_ble_eq_true rfl)
    exact h1 _ _ ⟨by rw [List.replicate_succ'] <;> rfl, by omega, x2 _ _ (by omega) e1', x2 _ _ (by omega) e2', x2 _ _ (by omega) e3'⟩
  · rintro acc S' ⟨rfl, i4, _⟩
    walk_at "dd"
    rw [show List.replicate (rngD 0 m'.toNat).length (D.bl true) = (List.replicate (rngD 0 m'.toNat).length true).map D.bl by rw [List.map_replicate]]
    show sCall _ _ (.builtin "all") [] [.v (.lst _)] [] _ _ _
    refine c_all rfl ls_v ?_
    rw [show ∀ k : Nat, (List.replicate k true).all id = true from fun k => by induction k with | zero => rfl | succ k ih => rw [List.replicate_succ, List.all_cons, ih] <;> rfl]
    walk_at "dd"
    rfl
end Toy

set_option Elab.async false
set_option linter.all false
set_option maxRecDepth 100000
set_option maxHeartbeats 4000000
namespace Toy
open PySem PySem.Spec PyProof.Rows L2 My Dt SX
def mkrs (K : PySem.W.Frag) : List Mkr := [((He.cT K ("_law_put_step", none)), lamQ "_law_put_step"), ((He.cT K ("_law_step", none)), lamQ "_law_step"), ((He.cT K ("_law_right", none)), lamQ "_law_right")]
theorem mkrs_tf {K : PySem.W.Frag} : (mkrs K).map (·.1) = Hk.cTs K tf := rfl
theorem says1 {K : PySem.W.Frag} (c : Hk.SaysE fa fn ex2 K) : Hk.SaysE fa fn ex K := by
  obtain ⟨h1, h2, h3⟩ := Hk.SaysE.parts c
  have h4 : ex K = true := (Bool.and_eq_true_iff.mp h3).1
  have h5 := congrArg (fun z : Hk.AlE => z.2) c
  refine Prod.ext ?_ h5
  show ((fa.all fun f => f.ok K) && ((fn.all fun d => d.ok K) && ex K)) = true
  rw [h1, h2, h4] <;> rfl
theorem says2 {K : PySem.W.Frag} (c : Hk.SaysE fa fn ex2 K) : (He.cT K ("_law_put_step", none)).2 ≠ (He.cT K ("_law_step", none)).2 ∧ (He.cT K ("_law_put_step", none)).2 ≠ (He.cT K ("_law_right", none)).2 ∧ (He.cT K ("_law_step", none)).2 ≠ (He.cT K ("_law_right", none)).2 := of_decide_eq_true (Bool.and_eq_true_iff.mp (Hk.SaysE.more c)).2
theorem mkrs_nd {K : PySem.W.Frag} (h : (He.cT K ("_law_put_step", none)).2 ≠ (He.cT K ("_law_step", none)).2 ∧ (He.cT K ("_law_put_step", none)).2 ≠ (He.cT K ("_law_right", none)).2 ∧ (He.cT K ("_law_step", none)).2 ≠ (He.cT K ("_law_right", none)).2) : ((mkrs K).map (·.1.2)).Nodup := by
  show [(He.cT K ("_law_put_step", none)).2, (He.cT K ("_law_step", none)).2, (He.cT K ("_law_right", none)).2].Nodup
  simp only [List.nodup_cons, List.mem_cons, List.not_mem_nil, or_false, not_or, not_false_eq_true, List.nodup_nil, and_true]
  exact ⟨⟨h.1, h.2.1⟩, h.2.2⟩
theorem ok_lawT {P : Program} {w : World} {K : PySem.W.Frag} {mg : Str → Option Value} {base : Heap} (T : Tx K mg) (TB : ∀ p ∈ mkrs K, LamX.TabB base mg p.1.1 p.1.2) {ns : List Int} (hl : ns.length ≤ 63) :
    sFun (bs P w K mg base) 14 (.ref (He.ga K "law")) [] [.lsk (ns.map .int)] [] (sto0 (mkrs K)) noX (fun o _ => o = .v (.bl true)) := ok_law T (TB _ (.head _)) rfl (TB _ (.tail _ (.head _))) rfl (TB _ (.tail _ (.tail _ (.head _)))) rfl hl
end Toy
open PySem PySem.W PySem.Calls PyProof.Rows
theorem PySem.Challenge.cw_drawclaims_k73_tables_by_a_list_holds : PySem.Challenge.rw_drawclaims_k73_tables_by_a_list.Holds := by
  w_on; o_law
  refine HandSHeadRun.head_any (r := OpenLaw.row PySem.Challenge.rw_drawclaims_k73_tables_by_a_list) (q := view (OpenLaw.row PySem.Challenge.rw_drawclaims_k73_tables_by_a_list).prog [33]) (H := Toy.hk) (ob := Toy.ob) (M := 6000) (loose := Toy.loose) (d := HandSHeadRun.topDef (OpenLaw.row PySem.Challenge.rw_drawclaims_k73_tables_by_a_list).prog 33) (kwd := []) Toy.ob_eq
    (by kernel_rfl) (fun s => by kernel_rfl) Toy.headRunT (by kernel_rfl) (by kernel_rfl) (by kernel_rfl) (by rfl) (by first | assumption | decide +kernel) (by decide +kernel) ⟨rfl, rfl, rfl, rfl, rfl, by decide +kernel⟩ ?hw ?hc
  case hw => w_witness2
  case hc =>
    refine Dt.walk_dT (l := PySem.Challenge.rw_drawclaims_k73_tables_by_a_list) (n := 63) (k := 14) rfl (by decide) (by kernel_rfl) ⟨⟨rfl, by decide, by decide⟩, rfl⟩ ?F
    intro w mg fa h Y G hmg0
    obtain ⟨K, KX, c⟩ := Y
    have hmg : mg ("law" : PySem.Str) = some (.ref fa) := by
      have e : (HandSHeadRun.topDef (OpenLaw.row PySem.Challenge.rw_drawclaims_k73_tables_by_a_list).prog 33).name = ("law" : PySem.Str) := by kernel_rfl
      rw [← e]
      exact hmg0
    have T := Toy.tx_ok KX G (Toy.says1 c.c)
    have e := hmg.symm.trans T.g_law
    cases e
    exact ⟨K, Toy.mkrs K, KX, fun p hp => Hk.tbl0_of KX c p (by rw [← Toy.mkrs_tf]; exact hp), Toy.mkrs_nd (Toy.says2 c.c), fun base TB ns hl => Toy.ok_lawT T TB hl⟩
