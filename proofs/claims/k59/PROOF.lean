import PyProof.Rows.All
import Wide.All
import OpenK.AllK
import Wide.FinOn
import KE.KExcSuper
import HandS.ForMost
import HandS.ExcInit
import HandS.ExcIs
import HandS.HeadEnd
import HandS.Defaults
import PyProof.ReprRoads
import HandS.Wide
import HandS.HeadHook2
import PyProof.ReprLen
import HandS.Walk
import HandS.Head0
import HandS.Head1
import HandS.Head2
import KE.KStateDown
import Lean
import PySem.Challenge.RW_stepsunread_k59_errors_with_any_value
set_option Elab.async false
set_option linter.all false
set_option maxRecDepth 100000
set_option maxHeartbeats 4000000
/-! StepError.__init__: super().__init__('this is refused'); self.value = value, of an instance of any class below StepError. -/
namespace PySem
namespace SE
open PySem.W PySem.Calls PyProof.Rows PySem.HandSPX
def iA (p1 p2 : Pos) : Arguments := { posonlyargs := [], args := [{ arg := "self", annotation := none, pos := p1 }, { arg := "value", annotation := none, pos := p2 }], vararg := none, kwonlyargs := [], kw_defaults := [], kwarg := none, defaults := [] }
def iB (a0 a1 a2 a3 a4 a5 q1 q2 q3 q4 : Pos) (j : Nat) : List Stmt := [
  .Expr (.Call (.Attribute (.Call (.Name "super" a0) [] [] a1) "__init__" a2) [.Constant (.str "this is refused") j a3] [] a4) a5,
  .Assign [.Attribute (.Name "self" q1) "value" q2] (.Name "value" q3) q4]
def iS : Scope := { kind := .function, names := [(PySem.Str.ofString "self", .local), (PySem.Str.ofString "value", .local), (PySem.Str.ofString "__class__", .free), (PySem.Str.ofString "super", .globalImplicit)], isGenerator := false, isCoroutine := false, more := [] }
/-- what the written part says of StepError, at D, its __init__, at fI, its cell and code -/
structure SeTxt (prog : Program) (K : Frag) (D fI cc cda : Addr) : Prop where
  fn : ∃ (oc : Value) (od : Option Addr) (kV doc pm : Value) (an : Option Addr) (ct : Value) (osl : Array (Option Value)) (p1 p2 a0 a1 a2 a3 a4 a5 q1 q2 q3 q4 : Pos) (j : Nat),
    K.lookup fI = some ⟨oc, od, .func (ksFn "__init__" "StepError.__init__" (iA p1 p2) (iB a0 a1 a2 a3 a4 a5 q1 q2 q3 q4 j) iS .none kV doc pm an (.ref cda) ct cc), osl⟩ ∧ (a2.endLine == a4.line) = true
  code : codeIn K (.ref cda) "StepError.__init__" = true
  file : ∃ ccl cdd vs ccs file tf, K.lookup cda = some ⟨ccl, cdd, .fields vs, ccs⟩ ∧ vs[2]? = some (.str file tf) ∧ ((prog.main.file : Str) == file) = true
  cell : ∃ cl cld csl, K.lookup cc = some ⟨cl, cld, .cell (some (.ref D)), csl⟩
  clsD : ∃ cd, clsIn K D = some cd
  tp : nsIn K cStatics "thirdparty.any" = some none
  top : (prog.main.scope.names.lookup ("super" : Str)).isSome = false
/-- .. and of a class below it, at C -/
structure SeCls (K : Frag) (D fI C : Addr) : Prop where
  oex : L2.OexC K C
  iC : findIn K (.ref C) "__init__" = some (some (.ref fI))
  tI : typeIn K (.ref fI) = some (.type "function")
  noV : findIn K (.ref C) "value" = some none
  sub : mroIn K C (.ref D) = some true
  sup : ks_superIn K C D "__init__" = some (some (.builtin "ValueError.__init__"))
  isV : subIn K (.ref C) (.type "ValueError") = some true
section
variable {prog : Program} {w : World} {A : Around} {E : Value → Shared → Prop} {R : Result → Shared → Prop} {h : Heap} {g : Array GenState} {d : Drawn} {t : Nat} {os : OsState} {K : Frag} {mg mb : Str → Option Value} {C D fI cc cda : Addr}
theorem he_ {env : Env} {a0 a1 a2 a3 a4 : Pos} {j : Nat} (hln : (a2.endLine == a4.line) = true) : eval (.Call (.Attribute (.Call (.Name "super" a0) [] [] a1) "__init__" a2) [.Constant (.str "this is refused") j a3] [] a4) env = (do
      let ov ← attributeBase (.Call (.Name "super" a0) [] [] a1) "__init__" env (eval (.Call (.Name "super" a0) [] [] a1) env)
      standAt a2.atName
      let (f, first) ← holding [ov] (getMethod ov "__init__" (do return (← importBound (.Call (.Name "super" a0) [] [] a1) env).getD true))
      callWith a4 f first (backTo a4 (starEach [.Constant (.str "this is refused") j a3] env)) []) := by
  rw [arm_eval_Call]
  unfold methodCall
  have hpos : methodCallPos true (.Call (.Name "super" a0) [] [] a1) env a2 a4 = pure a4 := by unfold methodCallPos; simp [hln]
  have hform : methodCallForm (([.Constant (.str "this is refused") j a3] : List Expr).length + ([] : List Keyword).length) (backTo a4 (starEach [.Constant (.str "this is refused") j a3] env)) (backToKw a4 (keywordEach [] env)) = true := by rfl
  rw [hform, hpos]
  simp only [pure_bind]
  rfl
/-- the bound ValueError.__init__ called -/
theorem call_mw {u e t0 : Addr} {rest : List Value} {Q : Value → Shared → Prop} (T : L2.OexC K C) (X : K.In h) (he : h.get? e = some (excO C t0)) (hu : h.get? u = some (kxs_mw "ValueError.__init__" e)) (hz : rest.length ≤ sizeLine)
    (hq : ∀ h' t1, (∀ b o, b ≠ e → h.get? b = some o → h'.get? b = some o) → h'.get? e = some (excO C t1) → Q .none ⟨h', g, d, t, os⟩) :
    wpAny (model prog w) A (call (.ref u) rest) Q E ⟨h, g, d, t, os⟩ := by
  obtain ⟨nm, q, N, bs, bm, sn, sub, ab, col, dd, k0, k1, k2, k3, k5, hC, hbm⟩ := T.cls
  refine wpAny_call (codeAny_of_tree ?_)
  show wpAny _ A.in1 (callAny (.ref u) ⟨rest, []⟩) _ _ _
  simp only [callAny]
  refine wpAny_bind (wpAny_load hu ?_)
  simp only [kxs_mw, show (Value.type "method-wrapper" == Value.type "method" || Value.type "method-wrapper" == Value.type "builtin_function_or_method" || Value.type "method-wrapper" == Value.type "method-wrapper") = true by decide, if_true]
  refine KFB.if_so (by decide) ?_
  refine wpAny_bind (check_bound_init F.excBase_ValueError.toExcCallFacts (X _ _ hC) he rfl ?_)
  refine wpAny_bind (wpAny_pure (wpAny_pure ?_))
  refine ⟨Code.quiet_builtin _ (by decide +kernel), codeAny_builtin F.excBase_ValueError.initEntry ?_⟩
  rw [Around.under_plainId F.excBase_ValueError.init.plain _]
  wp_walk
  refine hq _ h.objs.size (fun b o hb ho => ?_) ?_
  · rw [Heap.get?_update_other _ _ (Ne.symm hb)]
    exact Heap.get?_push_of_some _ ho
  · rw [Heap.get?_update_self _ (Heap.get?_push_of_some _ he) rfl]
    rfl
theorem ldK {M : Model} {s : Shared} {name : Str} {scope : Scope} {L a : Addr} {cd : Value} {cc : Addr} {m : Str → Option Value} {x : Str} {pos : Pos} {v : Value} {Q : Value → Shared → Prop} {A : Around} {E : Value → Shared → Prop} (hn : s.heap.Ns L m) (hv : m x = some v) (h : Q v s)
    (hk : scope.kind = .function := by rfl) (hl : (ksEnv name scope L a cd cc).kindOf x = some .local := by rfl) (hd : (x == ("__debug__" : Str)) = false := by decide) :
    wpAny M A (eval (.Name x pos) (ksEnv name scope L a cd cc)) Q E s := wpAny_Name (wpAny_loadName_local hk hl hn hv h) hd
theorem se_init (T : SeTxt prog K D fI cc cda) (TC : SeCls K D fI C) {x t0 : Addr} {v : Value} {args : Args} (X : K.In h) (hlim : h.NoLimit) (hG : h.Ns mainGlobals mg) (hgs : mg "super" = none) (hB : h.Ns builtinsNs mb) (hbs : mb "super" = some (.type "super"))
    (hb : ∀ kV doc pm an ct p1 p2 a0 a1 a2 a3 a4 a5 q1 q2 q3 q4 j s, BindsTo s (ksFn "__init__" "StepError.__init__" (iA p1 p2) (iB a0 a1 a2 a3 a4 a5 q1 q2 q3 q4 j) iS .none kV doc pm an (.ref cda) ct cc) args [("self", .ref x), ("value", v)])
    (hx : h.get? x = some (excO C t0)) (hnx : K.lookup x = none) (hroom : A.depth < recursionLimit)
    (hq : ∀ h' tk dx t1, (∀ b o, b ≠ x → h.get? b = some o → h'.get? b = some o) → h.objs.size ≤ dx → dx ≠ x →
      h'.get? x = some { cls := .ref C, dict := some dx, data := .fields #[.ref t1, .none, .none, .none, .bool false, .none] } → h'.Ns1 dx (fun y => if y = "value" then some v else none) → R (.ok (.ret .none)) ⟨h', g, d, tk, os⟩) :
    codeAny (model prog w) A (.call (.ref fI) args) R ⟨h, g, d, t, os⟩ := by
  obtain ⟨oc, od, kV, doc, pm, an, ct, osl, p1, p2, a0, a1, a2, a3, a4, a5, q1, q2, q3, q4, j, ho, hln⟩ := T.fn
  obtain ⟨ccl, cdd, vs, ccs, file, tf, hcode, hvs, hfile⟩ := T.file
  obtain ⟨cl, cld, csl, hcell⟩ := T.cell
  obtain ⟨cdD, hD⟩ := T.clsD
  obtain ⟨nm, q, N, bs, bm, sn, sub, ab, col, dd, k0, k1, k2, k3, k5, hC, hbm⟩ := TC.oex.cls
  have hcl : clsIn K C = some { name := nm, bases := bs, mro := .ref C :: bm, ns := N, qualname := q, hasDict := true, slotNames := sn, subclasses := sub, abstract := ab, collection := col, hasDel := false } := by unfold clsIn; rw [hC] <;> rfl
  have hxC : x ≠ C := fun z => by
    have e := X _ _ hC
    rw [z] at hx
    rw [hx] at e
    cases e
  refine ks_codeAny_call_defAt (fd := ksFn "__init__" "StepError.__init__" (iA p1 p2) (iB a0 a1 a2 a3 a4 a5 q1 q2 q3 q4 j) iS .none kV doc pm an (.ref cda) ct cc) (body := iB a0 a1 a2 a3 a4 a5 q1 q2 q3 q4 j) (binds := [("self", .ref x), ("value", v)]) hroom (X _ _ ho) rfl hlim (codeRec_of X T.code) rfl (hb _ _ _ _ _ _ _ _ _ _ _ _ _ _ _ _ _ _ _) (show ∀ y ∈ iS.names, y.2 ≠ .cell by decide) (fun y hy => ?hl) (fun h1 hns k => ?_)
  case hl =>
    rcases List.mem_cons.mp hy with rfl | hy
    · rfl
    · rcases List.mem_cons.mp hy with rfl | hy
      · rfl
      · cases hy
  have X1 : K.In h1 := X.keeps k
  have hx1 := k _ _ hx
  obtain ⟨oD, hD1, hD2⟩ : ∃ oD, h1.get? D = some oD ∧ oD.data = .cls cdD := by
    unfold clsIn at hD
    split at hD
    · rename_i ho'
      cases hD
      exact ⟨_, X1 _ _ ho', rfl⟩
    · cases hD
  show wpAt _ _ (.func _ (ksEnv "StepError.__init__" iS h.objs.size fI (.ref cda) cc)) (execs (iB a0 a1 a2 a3 a4 a5 q1 q2 q3 q4 j) (ksEnv "StepError.__init__" iS h.objs.size fI (.ref cda) cc)) _ _ _
  refine ks_wpAt_execs_cons (ks_wpAt_Expr_any (ks_wpAt_MethodCall ?_ (he_ hln)))
  refine ks_wpAt_super_base (env := ksEnv "StepError.__init__" iS h.objs.size fI (.ref cda) cc) (fd := ksFn "__init__" "StepError.__init__" (iA p1 p2) (iB a0 a1 a2 a3 a4 a5 q1 q2 q3 q4 j) iS .none kV doc pm an (.ref cda) ct cc) (by rfl) (by rfl) (by decide) rfl (X1 _ _ ho) rfl rfl rfl (X1 _ _ hcode) rfl hvs hfile T.top ?_
  refine ks_loadName_global rfl (by rfl) (loadGlobal_builtin (env := ksEnv "StepError.__init__" iS h.objs.size fI (.ref cda) cc) (hG.keeps k) hgs (hB.keeps k) hbs ⟨rfl, ?_⟩)
  refine wpAny_loadName_free rfl (by rfl) (by rfl) ⟨_, X1 _ _ hcell, rfl⟩ ?_
  refine wpAny_loadName_local (v := .ref x) rfl (by rfl) hns (by rfl) ?_
  refine ks_wpAny_isType_cls hD1 hD2 ⟨rfl, ?_⟩
  refine ks_wpAny_call_super hD1 hD2 hx1 rfl (fun c e => nomatch e) (looks_mroIn X1 TC.sub) (fun h2 e k2 => ?_)
  have X2 : K.In h2 := X1.keeps k2
  have hx2 := k2 _ _ hx1
  have I2 : InstAt h2 x (excO C t0) C none := ⟨hx2, rfl, rfl, trivial⟩
  have hI : Looks (model prog w) h2 (isInstance (.ref x) (.type "ValueError")) true := I2.type.andThen (looks_subIn X2 TC.isV)
  have hsup := TC.sup
  unfold ks_superIn at hsup
  rw [hcl] at hsup
  refine kxs_getMethod kxs_ValueError e (looks_opaque X2 T.tp) (l₀ := .ref C :: bm) ((looks_clsIn X2 hcl).andThen .now) rfl X2 hsup hI hxC (by decide) ?_
  have k3 : ∀ b o, h2.get? b = some o → (h2.push (kxs_mw "ValueError.__init__" x)).get? b = some o := fun b o e => Heap.get?_push_of_some _ e
  have hu : (h2.push (kxs_mw "ValueError.__init__" x)).get? h2.objs.size = some (kxs_mw "ValueError.__init__" x) := Heap.get?_push_at rfl rfl
  refine kxs_callWith (i := "ValueError.__init__") (x := x) (by rfl) (evalArgs_plain ?_)
  refine spliced_cons (Constant_str (k := j) (pos := a3) (spliced_nil ⟨hu, ?_⟩))
  refine call_mw TC.oex (X2.keeps k3) (k3 _ _ hx2) hu (by show 1 ≤ sizeLine; rw [sizeLine_eq]; omega) (fun h4 t1 k4 hx4 => ?_)
  have kk : ∀ b o, b ≠ x → h.get? b = some o → h4.get? b = some o := fun b o hb e => k4 b o hb (k3 _ _ (k2 _ _ (k _ _ e)))
  have X4 : K.In h4 := fun a o e => k4 a o (fun z => by rw [z, hnx] at e; cases e) (k3 _ _ (X2 a o e))
  have hL : h.objs.size ≠ x := Nat.ne_of_gt (Heap.lt_size hx)
  have hn4 : h4.Ns h.objs.size (fun y => ([(("self" : Str), Value.ref x), (("value" : Str), v)] : List (Str × Value)).reverse.lookup y) := hns.at fun o e => k4 _ o hL (k3 _ _ (k2 _ _ e))
  have z1 : h.objs.size < h4.objs.size := hn4.lt
  refine wpAt_of_wpAny ?_
  refine wpAny_execs_cons (plainObj_wpAny_Assign_Attribute ?_)
  refine ldK (v := v) hn4 (by first | rfl | with_unfolding_all rfl | kernel_rfl) (ldK (v := .ref x) hn4 (by first | rfl | with_unfolding_all rfl | kernel_rfl) ?_)
  refine set_plain X4 (ox := excO C t1) (od := none) ⟨hx4, rfl, rfl, trivial⟩ TC.oex.sa ?_
  refine exc_osa X4 hx4 hcl (show refsVE (.ref C :: bm) = true from hbm) rfl TC.noV (fun h5 tk5 dx k5 dn dne hx5 hn5 => ?_)
  show wpAny _ _ (execs _ _) _ _ _
  exact wpAny_execs_nil (hq h5 tk5 dx t1 (fun b o hb e => k5 b o hb (kk b o hb e)) (Nat.le_of_lt (Nat.lt_of_lt_of_le z1 dn)) dne hx5 hn5)
end
end SE
end PySem
set_option Elab.async false
set_option linter.all false
set_option maxRecDepth 100000
set_option maxHeartbeats 4000000
/-! An error class of the program called, by place or by name: BaseException.__new__, then StepError.__init__. -/
namespace PySem
namespace SE
open PySem.W PySem.Calls PyProof.Rows PySem.HandSPX
section
variable {M : Model} {prog : Program} {w : World} {A : Around} {E : Value → Shared → Prop} {R : Result → Shared → Prop} {h : Heap} {g : Array GenState} {d : Drawn} {t : Nat} {os : OsState}
variable {nm q : Str} {C N : Addr} {bs bm bmB : List Value} {hdct : Bool} {sn : List Str} {sub : List Value} {ab : Bool} {col : Option Bool} {dd : Option Addr} {k0 k1 k2 k3 k5 : Option Value} {B newId initId : String} {rest : List Value} {kw : List (Str × Value)}
theorem kw_check (F : ExcBaseFacts B newId initId bmB) (hT : ∀ Y : String, bm.contains (.type Y) = bmB.contains (.type Y)) {Q : Unit → Shared → Prop}
    (hK : h.get? C = some (excClassObj nm q C N bs bm hdct sn sub ab col dd k0 k1 k2 k3 k5 newId)) (hq : Q () ⟨h, g, d, t, os⟩) : wpAny M A (checkBuiltinCall newId ⟨.ref C :: rest, kw⟩) Q E ⟨h, g, d, t, os⟩ := by
  have hin : (Value.ref C :: bm).contains (.type B) = true := by rw [List.contains_cons, hT, F.hasB, Bool.or_true]
  have hst := F.noStar
  simp only [checkBuiltinCall, F.newKind, F.newSplit, F.newRow]
  repeat (first | refine wpAny_loadPart_at hK ?_ | (refine wpAny_isSubtype_exc hK ?_; rw [hin]) | refine wpAny_staticBase_exc hK ?_ | refine wpAny_madeBy_exc hK ?_ | simp only [bne_self_eq_false, Bool.false_eq_true, if_false] | wp_step)
  exact hq
theorem kw_new (F : ExcBaseFacts B newId initId bmB) (hT : ∀ Y : String, bm.contains (.type Y) = bmB.contains (.type Y))
    (hK : h.get? C = some (excClassObj nm q C N bs bm hdct sn sub ab col dd k0 k1 k2 k3 k5 newId))
    (hq : R (.ok (.ret (.ref (h.objs.size + 1)))) ⟨(h.push (kdv_tup rest)).push (excO C h.objs.size), g, d, t, os⟩) (hz : rest.length ≤ sizeLine) :
    codeAny (model prog w) A (.builtin newId ⟨.ref C :: rest, kw⟩) R ⟨h, g, d, t, os⟩ := by
  have he := F.ends
  have hin : (Value.ref C :: bm).contains (.type B) = true := by rw [List.contains_cons, hT, F.hasB, Bool.or_true]
  have nA : (Value.ref C :: bm).contains (.type "AttributeError") = false := by rw [List.contains_cons, hT, F.noAttr]; rfl
  have nN : (Value.ref C :: bm).contains (.type "NameError") = false := by rw [List.contains_cons, hT, F.noName]; rfl
  refine codeAny_builtinAt F.entry ?_
  unfold Builtin.«BaseException.__new__»
  refine wpAt_bind (show wpAt _ _ _ (stack >>= _) _ _ _ from wpAt_bind (wpAt_stack fun p below => wpAt_of_wpAny ?_))
  wp_walk
  refine wpAt_of_wpAny ?_
  rw [F.owner]
  repeat (first | with_reducible refine wpAny_madeHere_exc F.canon hK ?_ | with_reducible refine wpAny_loadPart_at hK ?_ | (with_reducible refine wpAny_isSubtype_exc hK ?_; first | rw [hin] | rw [nA] | rw [nN]) | wp_step)
  show R _ _
  rw [Heap.size_push]; exact hq
theorem kw_tcheck {Q : Unit → Shared → Prop} (hK : h.get? C = some (excClassObj nm q C N bs bm hdct sn sub ab col dd k0 k1 k2 k3 k5 newId))
    (hq : Q () ⟨h, g, d, t, os⟩) : wpAny M A (checkBuiltinCall "type.__call__" ⟨.ref C :: rest, kw⟩) Q E ⟨h, g, d, t, os⟩ := by
  have l3 := tc_sub
  have hTy : (⟨h, g, d, t, os⟩ : Shared).TypeIs (.ref C) "type" := ⟨_, hK, rfl⟩
  simp only [checkBuiltinCall, tc_kind, tc_split]
  repeat (any_goals (first | assumption | with_reducible refine wpAny_loadPart_at hK ?_ | with_reducible refine wpAny_onRaise ?_ | with_reducible refine wpAny_map ?_ | wp_step))
theorem kw_tcall (F : ExcBaseFacts B newId initId bmB) (hT : ∀ Y : String, bm.contains (.type Y) = bmB.contains (.type Y)) {fI : Addr} {Q : Fin → Shared → Prop}
    (hK : h.get? C = some (excClassObj nm q C N bs bm hdct sn sub ab col dd k0 k1 k2 k3 k5 newId))
    (hi : Looks (model prog w) h (typeLookup (.ref C) "__init__") (some (.ref fI))) (hb : ∀ self, Looks (model prog w) h (bindSpecial (.ref fI) self) (.ref fI, [self])) (hz : rest.length ≤ sizeLine)
    (hq : codeAny (model prog w) A (.call (.ref fI) ⟨.ref (h.objs.size + 1) :: rest, kw⟩)
      (fun r s' => match r with | .ok (.ret v) => v = .none ∧ Q (.done (.ret (.ref (h.objs.size + 1)))) s' | .ok _ => False | .error e => E e s') ⟨(h.push (kdv_tup rest)).push (excO C h.objs.size), g, d, t, os⟩) :
    wpAny (model prog w) A (Builtin.«type.__call__» ⟨.ref C :: rest, kw⟩) Q E ⟨h, g, d, t, os⟩ := by
  repeat (first | with_reducible refine wpAny_loadPart_at hK ?_ | with_reducible refine wpAny_madeBy_exc hK ?_ | wp_step)
  refine codeAny_call_builtin_code (Code.quiet_builtin _ F.quiet) (kw_check F hT hK (kw_new F hT hK ?_ hz))
  show wpAny _ _ _ _ _ _
  have kp : ∀ b o, h.get? b = some o → ((h.push (kdv_tup rest)).push (excO C h.objs.size)).get? b = some o := fun b o e => Heap.get?_push_of_some _ (Heap.get?_push_of_some _ e)
  have hK1 := kp _ _ hK
  have hat : ((h.push (kdv_tup rest)).push (excO C h.objs.size)).get? (h.objs.size + 1) = some (excO C h.objs.size) := by heap_get
  have hcc : (Value.ref C :: bm).contains (.ref C) = true := by simp
  have j1 := hi.keeps kp
  have j2 := (hb (.ref (h.objs.size + 1))).keeps kp
  unfold isInstance
  repeat (first | with_reducible refine wpAny_loadPart_at hat ?_ | (with_reducible refine wpAny_isSubtype_exc hK1 ?_; rw [hcc]) | wp_step)
  refine (show wpAny _ _ (typeLookup (.ref C) _) _ _ _ from j1.at (wpAny_holding (wpAny_bind (j2.at (wpAny_bind (wpAny_call (codeAny_mono hq fun r s' z => ?_)))))))
  rcases r with e | (v | _ | _ | _) <;> first | exact z | exact z.elim | skip
  obtain ⟨rfl, y⟩ := z
  first | exact wpAny_pure (wpAny_pure y) | (wp_walk; exact y)
theorem kw_call (F : ExcBaseFacts B newId initId bmB) (hT : ∀ Y : String, bm.contains (.type Y) = bmB.contains (.type Y)) {fI : Addr}
    (hK : h.get? C = some (excClassObj nm q C N bs bm hdct sn sub ab col dd k0 k1 k2 k3 k5 newId))
    (hi : Looks (model prog w) h (typeLookup (.ref C) "__init__") (some (.ref fI))) (hb : ∀ self, Looks (model prog w) h (bindSpecial (.ref fI) self) (.ref fI, [self])) (hz : rest.length ≤ sizeLine)
    (hq : codeAny (model prog w) (A.under (.builtin "type.__call__" ⟨.ref C :: rest, kw⟩)) (.call (.ref fI) ⟨.ref (h.objs.size + 1) :: rest, kw⟩) (InitBack (h.objs.size + 1) R)
      ⟨(h.push (kdv_tup rest)).push (excO C h.objs.size), g, d, t, os⟩) :
    codeAny (model prog w) A (.call (.ref C) ⟨rest, kw⟩) R ⟨h, g, d, t, os⟩ := by
  have l1 := tc_lookup
  have l2 := tc_bind (.ref C)
  have hTy : (⟨h, g, d, t, os⟩ : Shared).TypeIs (.ref C) "type" := ⟨_, hK, rfl⟩
  refine codeAny_of_tree (show wpAny _ _ (callAny (.ref C) _) _ _ _ from ?_)
  repeat (any_goals (first | assumption | with_reducible refine wpAny_loadPart_at hK ?_ | wp_step))
  refine ⟨rfl, ?_⟩
  refine codeAny_call_builtin_at (Code.quiet_builtin _ (by decide +kernel)) entry_typeCall (kw_tcheck hK (kw_tcall F hT hK hi hb hz ?_))
  refine codeAny_mono hq fun r s' z => ?_
  rcases r with e | (v | _ | _ | _) <;> exact z
end
end SE
end PySem
set_option Elab.async false
set_option linter.all false
set_option maxRecDepth 100000
set_option maxHeartbeats 4000000
/-! Errors of the program as values: made, asked by isinstance, their value read. -/
namespace L2
open PySem PySem.Spec PyProof.Rows PySem.W
section
variable {X : Cx} {pins : List (Addr × Obj)} {σ : St} {H : Hp} {s : Shared}
/-- two new objects at once -/
theorem laid_two {h' : Heap} {a d : Addr} {oa od : HO} {t' : Nat} (I : Inv X pins σ H s) (k : ∀ b u, s.heap.get? b = some u → h'.get? b = some u) (ha : s.heap.objs.size ≤ a) (hd : s.heap.objs.size ≤ d)
    (na : ObjOk X.prog X.w (upd (upd H d od) a oa) h' a oa) (nd : ObjOk X.prog X.w (upd (upd H d od) a oa) h' d od) (ne : d ≠ a) : Inv X pins σ (upd (upd H d od) a oa) { s with heap := h', toks := t' } := by
  have fa : H a = none := I.hok.fresh ha
  have fd : H d = none := I.hok.fresh hd
  have up : ∀ {b : Addr} {o : HO}, H b = some o → upd (upd H d od) a oa b = some o := fun {b o} q => by
    rw [upd_ne (ne_of_none q fa), upd_ne (ne_of_none q fd)]; exact q
  have lt : ∀ {b : Addr} {o : Obj}, s.heap.get? b = some o → b ≠ a ∧ b ≠ d := fun {b o} q =>
    ⟨Nat.ne_of_lt (Nat.lt_of_lt_of_le (Heap.lt_size q) ha), Nat.ne_of_lt (Nat.lt_of_lt_of_le (Heap.lt_size q) hd)⟩
  refine I.un (t' := t') ⟨fun b o q _ _ _ => k b o q, fun b o q _ _ _ => ⟨o.slots, k b o q⟩, fun b o q n _ => ?_, fun b o q _ => ⟨o, k b o q⟩, fun b xs q => up q, fun b o v q => up q, fun b ps q => ⟨#[], by rw [up q]; simp⟩⟩ fun b o q => ?_
  · rw [upd_ne (lt q).1, upd_ne (lt q).2]; exact n
  · by_cases hb : b = a
    · subst hb
      rw [upd_same] at q
      cases q; exact na
    · rw [upd_ne hb] at q
      by_cases hd' : b = d
      · subst hd'
        rw [upd_same] at q
        cases q; exact nd
      · rw [upd_ne hd'] at q
        exact (I.hok b o q).stay (fun c v _ z => k c v z) (fun c z => up z) fun c xs z => up z
end
/-- an error at a, of the class at C, that keeps v; its dict at d -/
def ErrAt (H : Hp) (a C : Addr) (v : V) : Prop := ∃ d, H a = some (exo a C (some d)) ∧ H d = some (.xd [(("value" : Str), v)])
/-- C(e) -/
def tErr (C : Addr) (te : TE) : TE := fun σ H Q => te σ H fun v H1 => ∀ a d, H1 a = none → H1 d = none → d ≠ a → Q (.ref a) (upd (upd H1 d (.xd [(("value" : Str), v)])) a (exo a C (some d)))
section
variable {X : Cx} {C D fI cc cda : Addr} {x : Str} {e : Expr} {te : TE} {p pos kpos : Pos} {k : Nat}
theorem relO_one {v : V} {u : Value} (r : RelV v u) (f : Str) : RelO (List.lookup f [(("value" : Str), v)]) (if f = "value" then some u else none) := relO_put (fs := []) (mA := fun _ => none) r (fun _ => True.intro) f
theorem err_run {pins : List (Addr × Obj)} {s1 : Shared} {σ : St} {H1 : Hp} {Q : VK} {v : V} {u : Value} {rest : List Value} {kw : List (Str × Value)} (T : SE.SeTxt X.prog X.K D fI cc cda) (TC : SE.SeCls X.K D fI C) (hr : Room (k + 1) X.A) (gs : X.mg "super" = none) (I1 : Inv X pins σ H1 s1) (r1 : RelV v u)
    (hz : rest.length ≤ sizeLine)
    (hb : ∀ x kV doc pm an ct p1 p2 a0 a1 a2 a3 a4 a5 q1 q2 q3 q4 j s, BindsTo s (ksFn "__init__" "StepError.__init__" (SE.iA p1 p2) (SE.iB a0 a1 a2 a3 a4 a5 q1 q2 q3 q4 j) SE.iS .none kV doc pm an (.ref cda) ct cc) ⟨.ref x :: rest, kw⟩ [("self", .ref x), ("value", u)])
    (q1 : ∀ a d, H1 a = none → H1 d = none → d ≠ a → Q (.ref a) (upd (upd H1 d (.xd [(("value" : Str), v)])) a (exo a C (some d)))) :
    wpAny (model X.prog X.w) X.A (call (.ref C) rest kw) (EP X pins σ Q) X.xe s1 := by
  have ic := I1.kIn
  have lim := I1.nolimit
  have gl := I1.mod.glob.keeps I1.bk
  obtain ⟨mb, bns, bb⟩ := I1.mod.blt
  have bl := bns.keeps I1.bk
  obtain ⟨nm, q, N, bs, bm, sn, sub, ab, col, dd, k0, k1, k2, k3, k5, hC, hbm⟩ := TC.oex.cls
  have nx : X.K.lookup (s1.heap.objs.size + 1) = none := by
    cases z : X.K.lookup (s1.heap.objs.size + 1) with
    | none => rfl
    | some o => exact absurd (Nat.lt_of_succ_lt (Heap.lt_size (ic _ _ z))) (Nat.lt_irrefl _)
  obtain ⟨hp, g, dr, tk, os⟩ := s1
  have kp : ∀ b o, hp.get? b = some o → ((hp.push (kdv_tup rest)).push (HandSPX.excO C hp.objs.size)).get? b = some o := fun b o e => Heap.get?_push_of_some _ (Heap.get?_push_of_some _ e)
  have hat : ((hp.push (kdv_tup rest)).push (HandSPX.excO C hp.objs.size)).get? (hp.objs.size + 1) = some (HandSPX.excO C hp.objs.size) := by heap_get
  refine wpAny_call (SE.kw_call F.excBase_ValueError (fun Y => HandSPX.refsVE_contains Y bm hbm) (ic _ _ hC) (looks_findIn ic TC.iC) (fun self => bind_fn ic self TC.tI) hz ?_)
  refine SE.se_init T TC (ic.keeps kp) (lim.keeps kp) (gl.keeps kp) gs (bl.keeps kp) ((bb "super" (by decide)).trans (by first | rfl | decide +kernel)) (hb _) hat nx (hr.make C rest kw).depth fun h' tk' dx t1 k' dn dne hx hns => ?_
  have szE : ((hp.push (kdv_tup rest)).push (HandSPX.excO C hp.objs.size)).objs.size = hp.objs.size + 2 := by rw [Heap.size_push, Heap.size_push]
  rw [szE] at dn
  have old : ∀ b o, hp.get? b = some o → h'.get? b = some o := fun b o e => k' b o (Nat.ne_of_lt (Nat.lt_succ_of_lt (Heap.lt_size e))) (kp b o e)
  have la : hp.objs.size ≤ hp.objs.size + 1 := Nat.le_succ _
  have ld : hp.objs.size ≤ dx := Nat.le_trans (Nat.le_add_right _ 2) dn
  refine ⟨rfl, .ref (hp.objs.size + 1), _, laid_two (t' := tk') (a := hp.objs.size + 1) (d := dx) (oa := exo (hp.objs.size + 1) C (some dx)) (od := .xd [(("value" : Str), v)]) I1 old la ld (exo_ok hx) ⟨_, hns, relO_one r1⟩ dne, rfl, q1 _ _ (I1.hok.fresh la) (I1.hok.fresh ld) dne⟩
theorem pe_err (T : SE.SeTxt X.prog X.K D fI cc cda) (TC : SE.SeCls X.K D fI C) (hr : Room (k + 1) X.A) (gs : X.mg "super" = none) (gC : X.mg x = some (.ref C)) (hg : Gl X x) (he : PE X e te)
    (hs : starEach [e] X.env = (false, eval e X.env) :: starEach [] X.env := by rfl) (hdb : (x == ("__debug__" : Str)) = false := by decide) :
    PE X (.Call (.Name x p) [e] [] pos) (tErr C te) := by
  refine ⟨fun pins s σ H Q I h => ?_⟩
  refine wpAny_Call_Name_kw (ld_glob I hg gC ?_ hdb)
  refine callWith_K (h₀ := X.base) I.ok.mod.kin TC.oex.kC ?_ hs (by rfl)
  rw [hs]
  refine Calls.spliced_cons (thn (he.run pins s σ H _ I h) fun u s1 ⟨v, H1, I1, r1, q1⟩ => Calls.spliced_nil ⟨I1.kIn, ?_⟩)
  exact err_run T TC hr gs I1 r1 (by show 1 ≤ sizeLine; rw [sizeLine_eq]; omega) (fun _ _ _ _ _ _ _ _ _ _ _ _ _ _ _ _ _ _ _ _ => BindsTo.of_eq (by first | rfl | with_unfolding_all rfl)) q1
theorem pe_errK (T : SE.SeTxt X.prog X.K D fI cc cda) (TC : SE.SeCls X.K D fI C) (hr : Room (k + 1) X.A) (gs : X.mg "super" = none) (gC : X.mg x = some (.ref C)) (hg : Gl X x) (he : PE X e te) (hdb : (x == ("__debug__" : Str)) = false := by decide) :
    PE X (.Call (.Name x p) [] [⟨some "value", e, kpos⟩] pos) (tErr C te) := by
  refine ⟨fun pins s σ H Q I h => ?_⟩
  refine wpAny_Call_Name_kw (ld_glob I hg gC ?_ hdb)
  refine callWith_KW0 (h₀ := X.base) I.ok.mod.kin TC.oex.kC (by rfl) ?_ (by rfl)
  refine thn ((pk_cons (nm := some "value") (kpos := kpos) he pk_nil).run pos pins s σ H (fun vs H1 => match vs with | [v] => ∀ a d, H1 a = none → H1 d = none → d ≠ a → Q (.ref a) (upd (upd H1 d (.xd [(("value" : Str), v)])) a (exo a C (some d))) | _ => False) I h) fun us s1 ⟨vs, H1, I1, r1, q1⟩ => ⟨I1.kIn, ?_⟩
  cases r1 with
  | nil => exact q1.elim
  | cons rv rn =>
    cases rn with
    | nil => exact err_run T TC hr gs I1 rv (Nat.zero_le _) (fun _ _ _ _ _ _ _ _ _ _ _ _ _ _ _ _ _ _ _ _ => BindsTo.of_eq (by first | rfl | with_unfolding_all rfl)) q1
    | cons _ _ => exact q1.elim
end
end L2
set_option Elab.async false
set_option linter.all false
set_option maxRecDepth 100000
set_option maxHeartbeats 4000000
namespace L2
open PySem PySem.Spec PyProof.Rows PySem.W
/-- what a class says, so that isinstance asks its instances rightly, and their value is read -/
structure ErrIs (K : Frag) (C : Addr) : Prop where
  ga : findIn K (.ref C) "__getattribute__" = some (some (.builtin "BaseException.__getattribute__"))
  gg : findIn K (.ref C) "__getattr__" = some none
  be : subIn K (.ref C) (.type "BaseException") = some true
  hd : hasDictIn K C = true
  ca : findIn K (.ref C) "__class__" = some (some (.builtin "object.__class__"))
  cg : specialIn K (.builtin "object.__class__") "__get__" = some (some (.builtin "getset_descriptor.__get__"))
  ct : takesIn K (.builtin "object.__class__") = some true
  ob : mroIn K C (.type "object") = some true
  nv : findIn K (.ref C) "value" = some none
theorem find_data {K : Frag} {C : Addr} {od : Option Obj} {name : Str} {a g : Value} (hc : hasDictIn K C = true) (ha : findIn K (.ref C) name = some (some a)) (hg : specialIn K a "__get__" = some (some g)) (ht : takesIn K a = some true) : findObj K C od name = some (.bind g a) := by
  obtain ⟨cd, hc, _⟩ := any_some hc
  unfold findObj
  rw [hc, Option.bind_some, ha, Option.bind_some]
  simp [hg, ht]
section
variable {prog : Program} {w : World} {A : Around} {E : Value → Shared → Prop} {s : Shared} {K : Frag} {a C : Addr} {ox : Obj} {od : Option Obj}
/-- e.__class__ of an error, whatever its dict -/
theorem err_class {Q : Option Value → Shared → Prop} (T : ErrIs K C) (X : K.In s.heap) (I : InstAt s.heap a ox C od) (h : Q (some (.ref C)) { s with toks := s.toks + 1 }) : wpAny (model prog w) A (getAttr? (.ref a) "__class__") Q E s := by
  obtain ⟨hp, g, d, t, os⟩ := s
  have z0 := I.type (M := model prog w)
  have z1 := looks_findIn (M := model prog w) X T.ga
  have z2 := looks_findIn (M := model prog w) X T.gg
  have z3 := looks_find (M := model prog w) X I (find_data (od := od) T.hd T.ca T.cg T.ct)
  have isB : Looks (model prog w) hp (isInstance (.ref a) (.type "BaseException")) true := z0.andThen (looks_subIn X T.be)
  have n2 : (Value.builtin "BaseException.__getattribute__" == Value.builtin "object.__getattribute__") = false := by decide +kernel
  have n1 : (onTheHeap (Value.ref C) && Value.builtin "BaseException.__getattribute__" == Value.builtin "object.__getattribute__") = false := by rw [n2]; rfl
  unfold getAttr? getAttrBy? getAttrBy
  refine wpAny_bind (wpAny_mkText (wpAny_bind (wpAny_attempt (wpAny_holding (wpAny_bind (z0.at (wpAny_bind (z1.at ?_))))))))
  refine (show wpAny _ _ (if (onTheHeap (Value.ref C) && Value.builtin "BaseException.__getattribute__" == Value.builtin "object.__getattribute__") = true then _ else _) _ _ _ from ?_)
  rw [n1, if_neg Bool.false_ne_true]
  unfold getAttrByItsOwn hookBefore
  refine wpAny_bind ?_
  rw [if_pos (show onTheHeap (Value.ref C) = true from rfl)]
  refine z2.at (wpAny_bind (wpAny_attempt (wpAny_holding ?_)))
  unfold callGetattribute
  rw [show (false && onTheHeap (Value.builtin "BaseException.__getattribute__")) = false from rfl, if_neg Bool.false_ne_true]
  unfold boundAndCalled
  rw [PySem.F.excAttr_ValueError.ga.bind (.ref a)]
  refine wpAny_bind (wpAny_pure (show wpAny _ _ (call (.builtin "BaseException.__getattribute__") [.ref a, .str "__class__" t]) _ _ _ from ?_))
  refine wpAny_call (codeAny_call_builtin PySem.F.excAttr_ValueError.ga.plain PySem.F.entry_bexc_ga ?_)
  refine @check_slot (model prog w) _ _ ⟨hp, g, d, t + 1, os⟩ "BaseException.__getattribute__" "BaseException" "__getattribute__" (.ref a) [.str "__class__" t] [] _ (by decide +kernel) (by decide +kernel) isB (PySem.F.args_bexc_ga (.ref a) (.str "__class__" t)) ?_
  unfold Builtin.«object.__getattribute__»
  refine wpAny_bind (wpAny_of_eq (a := ((Value.ref a : Value), [Value.str "__class__" t])) (by first | rfl | (simp only [slotArgs]; rfl)) (wpAny_bind (wpAny_pure (wpAny_bind (z0.at (wpAny_bind (z3.at ?_)))))))
  refine (show wpAny _ _ (holding [Value.builtin "object.__class__"] (call (.builtin "getset_descriptor.__get__") [.builtin "object.__class__", .ref a, .ref C]) >>= ret) _ _ _ from ?_)
  refine wpAny_bind (wpAny_holding (wpAny_call (class_get (s := ⟨hp, g, d, t + 1, os⟩) (ox := ox) (od := od) X I T.ob ?_)))
  refine wpAny_pure (show wpAny _ _ (handedOut (.ref C)) _ _ _ from ?_)
  rw [handedOut_of (v := .ref C) rfl]
  first | exact wpAny_pure (wpAny_pure h) | exact wpAny_pure h | exact wpAny_pure (wpAny_bind (wpAny_pure (wpAny_pure h)))
end
section
variable {K : Frag} {a C : Addr}
theorem err_cls (T : ErrIs K C) : ∃ c d cd sl, K.lookup C = some ⟨c, d, .cls cd, sl⟩ := by
  obtain ⟨cd, hc, _⟩ := any_some T.hd
  unfold clsIn at hc
  split at hc
  · rename_i ho
    exact ⟨_, _, _, _, ho⟩
  · cases hc
theorem err_kit (T : ErrIs K C) : KitX K (.ref a) (.ref C) (fun h => ∃ ox od, InstAt h a ox C od) where
  ty := fun _ _ _ ⟨_, _, I⟩ => I.type
  it := fun _ _ X _ => by
    obtain ⟨c, d, cd, sl, ho⟩ := err_cls T
    intro A' Q' E' s' k q
    unfold isType loadHead
    exact wpAny_bind (wpAny_loadPart (k _ _ (X _ _ ho)) (wpAny_pure q))
  ne := fun h tp dd its n sl X htp => by
    obtain ⟨c, d, cd, sl', ho⟩ := err_cls T
    refine Bool.eq_false_iff.mpr fun q => ?_
    have e : C = tp := Value.ref.inj (beq_iff_eq.mp q)
    subst e
    cases (X _ _ ho).symm.trans htp
  ca := fun X ⟨_, _, I⟩ k => err_class T X I k
end
section
variable {X : Cx} {a C : Addr} {v : V} {H : Hp} {pins : List (Addr × Obj)} {σ : St} {s : Shared}
theorem err_inst (I : Inv X pins σ H s) (h : ErrAt H a C v) : ∃ ox od u, InstAt s.heap a ox C (some od) ∧ lookIn "value" od = some (some u) ∧ RelV v u := by
  obtain ⟨d, h1, h2⟩ := h
  obtain ⟨t1, ho⟩ := exo_at I.hok h1
  have hx : ObjOk X.prog X.w H s.heap d (.xd [(("value" : Str), v)]) := I.hok d _ h2
  obtain ⟨mA, hns, hr⟩ := hx
  obtain ⟨od, hod, hl⟩ := lookIn_ns hns
  have l : List.lookup ("value" : Str) [(("value" : Str), v)] = some v := by simp [List.lookup]
  obtain ⟨u, hu, ru⟩ := RelO.some_of (v := v) (o := mA "value") (by rw [← l]; exact hr "value")
  exact ⟨_, od, u, ⟨ho, rfl, rfl, hod⟩, by rw [hl, hu], ru⟩
/-- isinstance(e, c), e an error -/
def rIsErr (K : Frag) : List V → Hp → VK → Prop := fun xs H Q => ∃ (a C : Addr) (v c : V) (cv : Value) (b : Bool), xs = [.ref a, c] ∧ ErrAt H a C v ∧ ErrIs K C ∧ (∀ u, RelV c u → u = cv) ∧ kitOne K (.ref C) cv = some b ∧ Q (.bl b) H
theorem call_isErr : CallR X (.builtin "isinstance") (rIsErr X.K) := by
  intro pins s σ H xs us Q I r h
  obtain ⟨a, C, v, c, cv, b, rfl, hE, T, hcv, e, q⟩ := h
  cases r with
  | cons rx rr =>
    cases rr with
    | cons rt rr =>
      cases rr
      cases rx
      have ec := hcv _ rt
      subst ec
      obtain ⟨ox, od, _, J, _⟩ := err_inst I hE
      exact kia_one (err_kit T) I.kIn ⟨_, _, J⟩ e (fun z => nomatch z) fun tk => ⟨.bl b, H, I.kept (t' := tk) fun _ _ z => z, rfl, q⟩
/-- e.value -/
def tErrV (K : Frag) (te : TE) : TE := fun σ H Q => te σ H fun x H1 => ∃ (a C : Addr) (v : V), x = .ref a ∧ ErrAt H1 a C v ∧ ErrIs K C ∧ Q v H1
theorem pe_errv {e : Expr} {te : TE} {pos : Pos} (he : PE X e te) (hb : attributeBase e "value" X.env (eval e X.env) = eval e X.env := by rfl) : PE X (.Attribute e "value" pos) (tErrV X.K te) := by
  refine ⟨fun pins s σ H Q I h => attr_of hb (thn (he.run pins s σ H _ I h) fun u s1 hh => ?_)⟩
  obtain ⟨x, H1, I1, rx, a, C, v, ex, hE, T, q⟩ := hh
  subst ex
  obtain rfl : u = Value.ref a := rx
  obtain ⟨ox, od, u, J, hl, ru⟩ := err_inst I1 hE
  exact HandSPX.exc_get I1.kIn J T.ga T.gg T.be (findObj_own T.hd T.nv rfl hl) (handed_of ru) ⟨v, H1, I1.tok _, ru, q⟩
end
end L2
set_option Elab.async false
set_option linter.all false
set_option maxRecDepth 100000
set_option maxHeartbeats 4000000
/-! Defs that are called where no repr is under way (guards = some []): needed by whoever calls repr of a list, tuple or dict. -/
namespace L2
open PySem PySem.Spec PyProof.Rows
/-- as FnOk, called where no repr is under way -/
structure FnG (P : Program) (w : World) (K : PySem.W.Frag) (mg : Str → Option Value) (bse : Heap) (CX : CXT) (k : Nat) (f : Addr) (fd : FuncData) (ps : List Str) (sp : Sp) : Prop where
  len : ∀ vs H Q E, sp vs H Q E → vs.length = ps.length
  run : ∀ (B : Around) (ou : List Env) (s : Shared) (H : Hp) (ar : Args) (us : List Value) (vs : List V) (Q : VK) (E : XK), B.guards = some [] → Room k B → Env0 P w K mg bse B ou s H → BindsTo s fd ar (ps.zip us) → Vals vs us → sp vs H Q E →
    codeAny (model P w) B (.call (.ref f) ar) (CR CX ou P w H s Q E) s
section
variable {P : Program} {w : World} {K : PySem.W.Frag} {mg : Str → Option Value} {bse : Heap} {CX : CXT} {k : Nat} {f : Addr} {fd : FuncData} {ps : List Str} {sp : Sp}
theorem FnG.of (F : FnOk P w K mg bse CX k f fd ps sp) : FnG P w K mg bse CX k f fd ps sp := ⟨F.len, fun B ou s H ar us vs Q E _ => F.run B ou s H ar us vs Q E⟩
theorem fng_of {nm ql : Str} {pr : Arguments} {bd : List Stmt} {sc : Scope} {dV kV doc pm cdv ct oc : Value} {an od : Option Addr} {osl : Array (Option Value)} {N : List Str}
    (lk : K.lookup f = some ⟨oc, od, .func (PySem.W.fnOf nm ql pr bd sc dV kV doc pm an cdv ct), osl⟩) (hcd : PySem.W.codeIn K cdv ql = true) (S : FnScope N ps sc) (len : ∀ vs H Q E, sp vs H Q E → vs.length = ps.length)
    (hbd : ∀ (B : Around) (ou : List Env) (s : Shared) (H : Hp) (vs : List V) (Q : VK) (E : XK), B.guards = some [] → Room k (B.deeper (envOfC ql sc s.heap.objs.size f cdv)) → sp vs H Q E →
      ∃ t, PSs (cxOf CX P w K mg bse N ql sc f cdv B ou s H E) bd t ∧ t { nx := fun _ H' => Q .non H', rt := Q } (start N vs) H) :
    FnG P w K mg bse CX (k + 1) f (PySem.W.fnOf nm ql pr bd sc dV kV doc pm an cdv ct) ps sp := by
  refine ⟨len, fun B ou s H ar us vs Q E hgd hr e0 hb rv hsp => ?_⟩
  have KX : K.In s.heap := e0.mod.kin.keeps fun b o e => (e0.bs b o e).1
  have nl : s.heap.NoLimit := e0.mod.nolimit.keeps fun b o e => (e0.bs b o e).1
  refine codeAny_call_function hr.depth (KX _ _ lk) rfl S.co S.gen rfl (PySem.W.codeRec_of KX hcd) (hb _ _ _ _ (wpAny_newFunctionEnv_cells S.kind (fun ⟨n, v⟩ hy => ?_) fun env he s1 x => ?_))
  · rcases S.par n (List.of_mem_zip hy).1 with z | z
    · exact .inl z
    · exact .inr ⟨z, PySem.W.cellsFrom_some _ _ _ (.inl z)⟩
  subst he
  refine ⟨nl.keeps x.toInCall.keep, codeAny_func ?_⟩
  obtain ⟨t, ht, hq⟩ := hbd B ou s H vs Q E hgd (hr.deeper _) hsp
  have J0 : Inv (cxOf CX P w K mg bse N ql sc f cdv B ou s H E) [] (start N vs) H s1 := inv_start S hr.hd e0 (len _ _ _ _ hsp) rv x
  refine wpAny_mono (ht.run [] s1 (start N vs) H _ J0 hq) (fun fl s' hs => ?_) fun e s' hs => hs
  have fin : ∀ {σ' : St} {H' : Hp} {v : V} {u : Value}, Inv (cxOf CX P w K mg bse N ql sc f cdv B ou s H E) [] σ' H' s' → RelV v u → Q v H' → CE ou P w H s Q u s' := fun {σ' H' v u} J z q => ⟨v, H', J.os, J.bare, J.base, J.hok, z, q⟩
  cases fl with
  | ret u => obtain ⟨v, σ', H', J, z, q⟩ := hs; exact fin J z q
  | next => obtain ⟨σ', H', J, q⟩ := hs; exact fin (v := V.non) (u := Value.none) J rfl q
  | brk => obtain ⟨_, _, _, q⟩ := hs; exact q.elim
  | cont => obtain ⟨_, _, _, q⟩ := hs; exact q.elim
/-- the rule for a def of the text that no exception leaves -/
theorem FunD.okG {x ql : Str} {pr : Arguments} {bd : List Stmt} {sc : Scope} {dvs : List V} {kws : List (Str × V)} {N : List Str} (F : FunD K x ql pr bd sc dvs kws f fd) (S : FnScope N ps sc) (len : ∀ vs H Q E, sp vs H Q E → vs.length = ps.length)
    (hbd : ∀ (cdv : Value) (B : Around) (ou : List Env) (s : Shared) (H : Hp) (vs : List V) (Q : VK) (E : XK), B.guards = some [] → Room k (B.deeper (envOfC ql sc s.heap.objs.size f cdv)) → sp vs H Q E →
      ∃ t, PSs (cxOf CX0 P w K mg bse N ql sc f cdv B ou s H E).nox bd t ∧ t { nx := fun _ H' => Q .non H', rt := Q } (start N vs) H) : FnG P w K mg bse CX0 (k + 1) f fd ps sp := by
  obtain ⟨oc, od, dV, kV, doc, pm, an, cdv, ct, osl, rfl, lk, hcd, hD, hK⟩ := F.ex
  refine fng_of lk hcd S len fun B ou s H vs Q E hgd hr hsp => ?_
  obtain ⟨t, h, q⟩ := hbd cdv B ou s H vs Q E hgd hr hsp
  exact ⟨t, h.nox, q⟩
end
section
variable {X : Cx} {CX : CXT} {k : Nat} {f : Addr} {fd : FuncData} {ps : List Str} {sp : Sp} {dvs : List V} {ds : List Value} {E : XK} {x : Str} {p pos : Pos} {e : Expr} {es : List Expr} {t : TA}
theorem pe_callG (F : FnG X.prog X.w X.K X.mg X.base CX k f fd ps sp) (hgd : X.A.guards = some []) (hr : Room k X.A) (hg : Gl X x) (hm : X.mg x = some (.ref f)) (hk : PySem.W.keepIn X.K (.ref f) = true) (hb : Binds X.K fd ps ds) (hd : Vals dvs ds) (hx : Passes CX X E)
    (ha : PA X (e :: es) t) (hdb : (x == ("__debug__" : Str)) = false := by decide) (he : starEach (e :: es) X.env = (false, eval e X.env) :: starEach es X.env := by rfl) (hpl : (backTo pos (starEach es X.env)).any (·.1) = false := by rfl) :
    PE X (.Call (.Name x p) (e :: es) [] pos) (tCall sp dvs E t) := by
  refine ⟨fun pins s σ H Q I h => wpAny_Call_Name_kw (ld_glob I hg hm ?_ hdb)⟩
  refine PySem.W.callWith_K (h₀ := X.base) I.ok.mod.kin hk (thn (ha.run pos pins s σ H _ I h) fun us s1 ⟨vs, H1, I1, r, q⟩ => ⟨I1.kIn, ?_⟩) he hpl
  have r2 : Vals (vs ++ dvs) (us ++ ds) := r.append hd
  have hl : (us ++ ds).length = ps.length := by rw [← r2.length]; exact F.len _ _ _ _ q
  refine wpAny_call (codeAny_mono (F.run X.A X.stack s1 H1 ⟨us, []⟩ (us ++ ds) (vs ++ dvs) Q E hgd hr I1.env0 (hb s1 us I1.kIn hl) r2 q) fun r s' hq => ?_)
  cases r with
  | error er => exact hx pins σ H1 s1 er s' I1 hq
  | ok fl =>
    cases fl with
    | ret u => exact I1.after hq
    | next => exact hq.elim
    | brk => exact hq.elim
    | cont => exact hq.elim
end
end L2
namespace L2
open PySem PySem.Spec PyProof.Rows
section
variable {P : Program} {w : World} {K : PySem.W.Frag} {mg mb : Str → Option Value} {CX : CXT} {k : Nat} {fa a : Addr} {fd : FuncData} {x : Str} {sp : Sp} {s1 : Shared} {vs : List Value} {ns : List Int}
/-- the law is called: H tracks the script at most -/
theorem law_goG {H : Hp} (KX : K.In s1.heap) (hns : s1.heap.Ns mainGlobals mg) (hb : s1.heap.Ns builtinsNs mb) (hbb : ∀ x : Str, x ≠ "__name__" → mb x = bootBuiltins x) (hlim : s1.heap.NoLimit) (hg : s1.gens = #[])
    (ha : s1.heap.get? a = some { cls := .type "list", data := .seq vs.toArray }) (hr : Room k callerA) (F : ∀ bse : Heap, K.In bse → bse.Ns mainGlobals mg → FnG P w K mg bse CX k fa fd [x] sp) (hbd : ∀ (s : Shared) (u : Value), BindsTo s fd ⟨[u], []⟩ [(x, u)])
    (hsp : sp [.ref a] H (fun v _ => v = .bl true) fun _ _ _ => False) (hCX : ∀ e s', CX [] H s1 (fun _ _ _ => False) e s' → False) (hO : Only H) (hok : HOk P w H s1.heap) (hA : ∀ b u, H b = some u → b = a) (hK : ∀ u, H a = some u → K.lookup a = none) :
    codeAny (model P w) callerA (.call (.ref fa) ⟨[.ref a], []⟩) (fun r s' => r = .ok (.ret (.bool true)) ∧ OldK s1.heap s'.heap ∧ s'.os = s1.os ∧ AllBare s'.gens) s1 := by
  have free : ∀ {b : Addr}, (b = a → False) → H b = none := fun {b} n => by
    cases z : H b with
    | none => rfl
    | some u => exact (n (hA b u z)).elim
  have nsK : ∀ {b : Addr} {m : Str → Option Value}, s1.heap.Ns b m → (hidT s1.heap H).Ns b m := fun {b m} ⟨o, es, ep, e, d, r⟩ => ⟨o, es, ep, hidT_get e (free fun z => by
    rw [z, ha] at e
    cases e; cases d), d, r⟩
  have hKb : K.In (hidT s1.heap H) := fun b o e => hidT_get (KX b o e) (by
    cases z : H b with
    | none => rfl
    | some u =>
      obtain rfl := hA b u z
      rw [hK u z] at e; cases e)
  have hM : Mod K mg (hidT s1.heap H) := ⟨hKb, nsK hns, ⟨mb, nsK hb, hbb⟩, let ⟨mc, h1, h2⟩ := hlim; ⟨mc, nsK h1, h2⟩⟩
  have e0 : Env0 P w K mg (hidT s1.heap H) callerA [] s1 H := ⟨rfl, hM, fun b o e => of_hidT e, Nat.le_of_eq (hidT_size _ _), trivial, fun b hb => absurd (show b ∈ ([] : List Addr) from hb) List.not_mem_nil, hok, .of_eq hg⟩
  refine codeAny_mono ((F _ hKb (nsK hns)).run callerA [] s1 H ⟨[.ref a], []⟩ [.ref a] [.ref a] _ _ rfl hr e0 (hbd s1 (.ref a)) (.cons rfl .nil) hsp) fun r s' h => ?_
  match r, h with
  | .error e, h => exact (hCX e s' h).elim
  | .ok .next, h => exact h.elim
  | .ok .brk, h => exact h.elim
  | .ok .cont, h => exact h.elim
  | .ok (.ret u), ⟨v, H', os, bare, un, hok', r', q⟩ =>
    obtain rfl : v = .bl true := q
    obtain rfl : u = Value.bool true := r'
    refine ⟨rfl, OldK.of_keep fun b o e => ?_, os, bare⟩
    rcases hO b with z | ⟨ob, xs, z⟩
    · exact un.keep b o e z (fun y => absurd (show b ∈ ([] : List Addr) from y) List.not_mem_nil) (by simp)
    · have e1 := (hok b _ z).1
      rw [e] at e1; cases e1
      exact (hok' b _ (un.frzs b _ _ z)).1
theorem law_callG (KX : K.In s1.heap) (hns : s1.heap.Ns mainGlobals mg) (hb : s1.heap.Ns builtinsNs mb) (hbb : ∀ x : Str, x ≠ "__name__" → mb x = bootBuiltins x) (hlim : s1.heap.NoLimit) (hg : s1.gens = #[])
    (ha : s1.heap.get? a = some { cls := .type "list", data := .seq vs.toArray }) (hi : IntsAre vs ns) (hl : ns.length ≤ sizeLine) (hr : Room k callerA) (F : ∀ bse : Heap, K.In bse → bse.Ns mainGlobals mg → FnG P w K mg bse CX k fa fd [x] sp) (hbd : ∀ (s : Shared) (u : Value), BindsTo s fd ⟨[u], []⟩ [(x, u)])
    (hsp : ∀ H : Hp, Only H → SqL K H a (ns.map V.int) → sp [.ref a] H (fun v _ => v = .bl true) fun _ _ _ => False) (hCX : ∀ H e s', CX [] H s1 (fun _ _ _ => False) e s' → False) :
    codeAny (model P w) callerA (.call (.ref fa) ⟨[.ref a], []⟩) (fun r s' => r = .ok (.ret (.bool true)) ∧ OldK s1.heap s'.heap ∧ s'.os = s1.os ∧ AllBare s'.gens) s1 := by
  have rv := vals_ints hi
  have zl : vs.toArray.size ≤ sizeLine := by rw [List.size_toArray, hi.length]; exact hl
  cases hk : K.lookup a with
  | some o =>
    have e := KX a o hk
    rw [ha] at e; cases e
    have hO : Only (fun _ => none) := fun _ => .inl rfl
    exact law_goG (H := fun _ => none) KX hns hb hbb hlim hg ha hr F hbd (hsp _ hO (.inr ⟨_, vs.toArray, _, hk, rfl, rfl, rfl, zl, by simpa using rv⟩)) (hCX _) hO (fun b u z => nomatch z) (fun b u z => nomatch z) fun u z => nomatch z
  | none =>
    let fz : HO := .frz { cls := .type "list", data := .seq vs.toArray } (.lst (ns.map V.int))
    have hat : (fun b => if b = a then some fz else none : Hp) a = some fz := if_pos rfl
    have on : ∀ b u, (fun b => if b = a then some fz else none : Hp) b = some u → b = a ∧ u = fz := fun b u z => by
      by_cases y : b = a
      · exact ⟨y, (Option.some.inj ((if_pos y).symm.trans z)).symm⟩
      · cases (if_neg y).symm.trans z
    have hO : Only (fun b => if b = a then some fz else none) := fun b => by
      by_cases y : b = a
      · exact .inr ⟨_, _, if_pos y⟩
      · exact .inl (if_neg y)
    refine law_goG (H := fun b => if b = a then some fz else none) KX hns hb hbb hlim hg ha hr F hbd (hsp _ hO (.inl (.inr ⟨_, hat⟩))) (hCX _) hO (fun b u z => ?_) (fun b u z => (on b u z).1) fun _ _ => hk
    obtain ⟨rfl, rfl⟩ := on b u z
    exact ⟨ha, by rw [List.length_map]; exact hl, vs, _, rv, ha⟩
end
theorem walk_ofG {l : PySem.W.OpenLaw} {n k : Nat} {q : Program} {loose : List Str} {XP : (Str → Option Value) → Heap → Prop} {YP : World → Heap → Prop} {d : DefRec} {CX : CXT} {x : Str}
    (hn : l.most = some n) (hn2 : n ≤ sizeLine) (hdf : d.params.defaults = []) (hr : Room k callerA)
    (F : ∀ (w : World) (mg : Str → Option Value) (fa : Addr) (h : Heap), YP w h → h.Ns mainGlobals mg → mg d.name = some (.ref fa) →
      ∃ (K : PySem.W.Frag) (fd : FuncData) (sp : Sp), K.In h ∧ (∀ (s : Shared) (u : Value), BindsTo s fd ⟨[u], []⟩ [(x, u)]) ∧
        (∀ (H : Hp) (a : Addr) (ns : List Int), ns.length ≤ n → Only H → SqL K H a (ns.map V.int) → sp [.ref a] H (fun v _ => v = .bl true) fun _ _ _ => False) ∧ ∀ bse : Heap, K.In bse → bse.Ns mainGlobals mg → FnG l.prog w K mg bse CX k fa fd [x] sp)
    (hCX : ∀ (H : Hp) (s : Shared) (e : Value) (s' : Shared), CX [] H s (fun _ _ _ => False) e s' → False) :
    PySem.W.WalkO q loose XP YP l.row.toRowW d [] (fun f vs => PySem.call f vs) := by
  refine Att.attach_call hn hdf fun w s0 s1 mg mb fa o pm cd doc a vs ns G Y ho hd hcd hmg hobj hints hlen hg => ?_
  obtain ⟨K, fd, sp, KX, hb, hsp, hF⟩ := F w mg fa _ Y G.T.g hmg
  exact law_callG KX G.T.g G.T.b G.T.builtins G.T.nolimit hg hobj hints (Nat.le_trans hlen hn2) hr hF hb (fun H hO hS => hsp H a ns hlen hO hS) fun H e s' => hCX H s1 e s'
end L2
set_option Elab.async false
set_option linter.all false
set_option maxRecDepth 100000
set_option maxHeartbeats 4000000
/-! repr of data that the abstract heap holds: None, truths, ints, texts, lists, tuples, dicts, at any depth. -/
namespace L2
open PySem PySem.Spec PyProof.Rows
def keyD : Key → PyData
  | .inl i => .int i
  | .inr x => .str x
mutual
/-- what a value is as data, over the tracked heap alone -/
inductive Dq (H : Hp) : V → PyData → Prop
  | non : Dq H .non .none
  | bl (b : Bool) : Dq H (.bl b) (.bool b)
  | int (i : Int) : Dq H (.int i) (.int i)
  | str (x : Str) : Dq H (.str x) (.str x)
  | lst {a : Addr} {xs : List V} {ds : List PyData} : H a = some (.lst xs) → DqA H xs ds → Dq H (.ref a) (.list ds)
  | tup {a : Addr} {xs : List V} {ds : List PyData} : H a = some (.tup xs) → DqA H xs ds → Dq H (.ref a) (.tuple ds)
  | dct {a : Addr} {kvs : List (Key × V)} {ds : List PyData} : H a = some (.dK kvs) → DqA H (kvs.map (·.2)) ds → Dq H (.ref a) (.dict ((kvs.map fun kv => keyD kv.1).zip ds))
inductive DqA (H : Hp) : List V → List PyData → Prop
  | nil : DqA H [] []
  | cons {v : V} {vs : List V} {d : PyData} {ds : List PyData} : Dq H v d → DqA H vs ds → DqA H (v :: vs) (d :: ds)
end
mutual
theorem Dq.mono {H H' : Hp} (S : Same H H') : ∀ {v : V} {d : PyData}, Dq H v d → Dq H' v d
  | _, _, .non => .non
  | _, _, .bl b => .bl b
  | _, _, .int i => .int i
  | _, _, .str x => .str x
  | _, _, .lst h a => .lst (S _ _ h) (DqA.mono S a)
  | _, _, .tup h a => .tup (S _ _ h) (DqA.mono S a)
  | _, _, .dct h a => .dct (S _ _ h) (DqA.mono S a)
theorem DqA.mono {H H' : Hp} (S : Same H H') : ∀ {vs : List V} {ds : List PyData}, DqA H vs ds → DqA H' vs ds
  | _, _, .nil => .nil
  | _, _, .cons h a => .cons (Dq.mono S h) (DqA.mono S a)
end
theorem DqA.length {H : Hp} : ∀ {vs : List V} {ds : List PyData}, DqA H vs ds → vs.length = ds.length
  | _, _, .nil => rfl
  | _, _, .cons _ a => congrArg Nat.succ (DqA.length a)
section
variable {P : Program} {w : World} {h : Heap}
theorem keys_read : ∀ {es : List DictEntry} {kvs : List (Key × Value)}, Pairs (mixKind P w) es kvs → ReadsAll h (es.map (·.key)) (kvs.map fun kv => keyD kv.1) []
  | _, _, .nil => .nil
  | _, _, .cons (e := e) (kv := kv) hk _ r => by
    have r1 : Reads h e.key (keyD kv.1) [] := by
      rcases keyIs_shape (show keyIs kv.1 e.key = true from hk) with ⟨i, t, z, y⟩ | ⟨x, t, z, y⟩
      · rw [z, y]; exact .int i t
      · rw [z, y]; exact .str x t
    exact .cons (as := []) (bs := []) r1 (keys_read r)
theorem vals_read : ∀ {es : List DictEntry} {kvs : List (Key × Value)}, Pairs (mixKind P w) es kvs → es.map (·.val) = kvs.map (·.2)
  | _, _, .nil => rfl
  | _, _, .cons _ hv r => by rw [List.map_cons, List.map_cons, hv, vals_read r]
theorem kv_vals : ∀ {xs : List (Key × V)} {ys : List (Key × Value)}, KV xs ys → Vals (xs.map (·.2)) (ys.map (·.2)) ∧ xs.map (·.1) = ys.map (·.1)
  | _, _, .nil => ⟨.nil, rfl⟩
  | _, _, .cons r t => ⟨.cons r.2 (kv_vals t).1, by rw [List.map_cons, List.map_cons, r.1, (kv_vals t).2]⟩
end
section
variable {X : Cx} {pins : List (Addr × Obj)} {σ : St} {H : Hp} {s : Shared}
/-- a tracked object doesn't stand at sys.modules -/
theorem not_sys (I : Inv X pins σ H s) (hS : (X.K.lookup sysModules).isSome = true) {a : Addr} {o : HO} (e : H a = some o) : a ≠ sysModules := fun z => by
  obtain ⟨ob, hb⟩ := Option.isSome_iff_exists.mp hS
  have n := (I.bs _ _ (I.mod.kin _ _ hb)).2
  rw [z, n] at e; cases e
mutual
theorem Dq.reads (I : Inv X pins σ H s) (hS : (X.K.lookup sysModules).isSome = true) : ∀ {v : V} {d : PyData}, Dq H v d → ∀ u : Value, RelV v u → ∃ as, Reads s.heap u d as ∧ sysModules ∉ as
  | _, _, .non, _, r => by
    cases r
    exact ⟨_, .none, by simp⟩
  | _, _, .bl b, _, r => by
    cases r
    exact ⟨_, .bool b, by simp⟩
  | _, _, .int i, _, r => by
    obtain ⟨t, rfl⟩ := r
    exact ⟨_, .int i t, by simp⟩
  | _, _, .str x, _, r => by
    obtain ⟨t, rfl⟩ := r
    exact ⟨_, .str x t, by simp⟩
  | _, _, .lst hs ha, _, r => by
    cases r
    obtain ⟨_, its, n, rv, ho⟩ := I.hok _ _ hs
    obtain ⟨as, hr, hn⟩ := DqA.reads I hS ha its rv
    exact ⟨_, .list ho rfl rfl hr, by simp only [List.mem_cons, not_or]; exact ⟨(not_sys I hS hs).symm, hn⟩⟩
  | _, _, .tup hs ha, _, r => by
    cases r
    obtain ⟨_, its, rv, ⟨o, ho, hc, n, hd⟩⟩ := I.hok _ _ hs
    obtain ⟨as, hr, hn⟩ := DqA.reads I hS ha its rv
    exact ⟨_, .tuple ho hc hd hr, hn⟩
  | _, _, .dct (kvs := kvs) (ds := ds) hs ha, _, r => by
    cases r
    obtain ⟨_, _, ws, hkv, o, es, ep, ho, hx, hd, _, hp, _⟩ := I.hok _ _ hs
    obtain ⟨rv, rk⟩ := kv_vals hkv
    obtain ⟨as, hr, hn⟩ := DqA.reads I hS ha (ws.map (·.2)) rv
    have lz : (kvs.map fun kv => keyD kv.1).length = ds.length := by rw [List.length_map, ← ha.length, List.length_map]
    have ek : (ws.map fun kv => keyD kv.1) = kvs.map fun kv => keyD kv.1 := by
      have z := congrArg (List.map keyD) rk
      rw [List.map_map, List.map_map] at z
      exact z.symm
    refine ⟨_, .dict (as := []) (bs := as) ho hx.1 hd ?_ ?_, by simp only [List.cons_append, List.nil_append, List.mem_cons, not_or]; exact ⟨(not_sys I hS hs).symm, hn⟩⟩
    · rw [List.map_fst_zip (Nat.le_of_eq lz), ← ek]; exact keys_read hp
    · rw [List.map_snd_zip (Nat.le_of_eq lz.symm), vals_read hp]; exact hr
theorem DqA.reads (I : Inv X pins σ H s) (hS : (X.K.lookup sysModules).isSome = true) : ∀ {vs : List V} {ds : List PyData}, DqA H vs ds → ∀ us : List Value, Vals vs us → ∃ as, ReadsAll s.heap us ds as ∧ sysModules ∉ as
  | _, _, .nil, _, r => by
    cases r
    exact ⟨_, .nil, by simp⟩
  | _, _, .cons h1 h2, _, r => by
    cases r with
    | cons r1 r2 =>
      obtain ⟨as, q1, n1⟩ := Dq.reads I hS h1 _ r1
      obtain ⟨bs, q2, n2⟩ := DqA.reads I hS h2 _ r2
      exact ⟨_, .cons q1 q2, by simp only [List.mem_append, not_or]; exact ⟨n1, n2⟩⟩
end
/-- repr(e) -/
def rReprD : List V → Hp → VK → Prop := fun xs H Q => ∃ v d, xs = [v] ∧ Dq H v d ∧ d.showable = true ∧ d.depth ≤ 100 ∧ d.shown.length ≤ sizeLine ∧ Q (.str d.shown) H
theorem call_reprD {k : Nat} (hS : (X.K.lookup sysModules).isSome = true) (hgd : X.A.guards = some []) (hr : Room k X.A) : CallR X (.builtin "repr") rReprD := by
  intro pins s σ H xs us Q I r h
  obtain ⟨v, d, rfl, hd, hsh, hdp, hsz, q⟩ := h
  have hu := hr.un
  cases r with
  | cons rx rr =>
    cases rr
    rename_i u
    have fin : ∀ (h' : Heap) (t : Tok) (tk : Nat), (∀ b o, s.heap.get? b = some o → h'.get? b = some o) → EP X pins σ Q (.str d.shown t) { s with heap := h', toks := tk } := fun h' t tk k => ⟨.str d.shown, H, I.kept (t' := tk) k, ⟨_, rfl⟩, q⟩
    cases hd with
    | non =>
      cases rx
      exact PySem.P.repr_of_none (fin s.heap _ _ fun _ _ e => e)
    | bl b =>
      cases rx
      have z := fin s.heap s.toks (s.toks + 1) fun _ _ e => e
      exact PySem.P.repr_of_bool (by simpa only [PyData.shown] using z)
    | int i =>
      obtain ⟨t, rfl⟩ := rx
      exact PySem.P.repr_of_int (by simpa [PyData.showable] using hsh) (fin s.heap _ _ fun _ _ e => e)
    | str x =>
      obtain ⟨t, rfl⟩ := rx
      exact PySem.P.repr_of_str (fin s.heap _ _ fun _ _ e => e) hsz
    | lst hs ha =>
      cases rx
      obtain ⟨as, hrd, hn⟩ := Dq.reads I hS (.lst hs ha) _ rfl
      exact repr_of_reads' hrd hsh (fun _ => hn) hgd (by omega) (fun _ _ e => e) fin hsz
    | tup hs ha =>
      cases rx
      obtain ⟨as, hrd, hn⟩ := Dq.reads I hS (.tup hs ha) _ rfl
      exact repr_of_reads' hrd hsh (fun _ => hn) hgd (by omega) (fun _ _ e => e) fin hsz
    | dct hs ha =>
      cases rx
      obtain ⟨as, hrd, hn⟩ := Dq.reads I hS (.dct hs ha) _ rfl
      exact repr_of_reads' hrd hsh (fun _ => hn) hgd (by omega) (fun _ _ e => e) fin hsz
end
end L2
set_option Elab.async false
set_option linter.all false
set_option maxRecDepth 100000
set_option maxHeartbeats 4000000
namespace K59
open PySem PySem.Spec PyProof.Rows L2
/-! ### the text -/
def top (i : Nat) : Stmt := PySem.Challenge.pw_stepsunread_k59_errors_with_any_value.main.body.getD i (.Pass ⟨0, 0, 0, 0⟩)
abbrev sTake : Stmt := top 39
abbrev sOf : Stmt := top 40
abbrev sPot : Stmt := top 41
abbrev sOdd : Stmt := top 42
abbrev sMade : Stmt := top 43
abbrev sSorts : Stmt := top 44
abbrev sRight : Stmt := top 45
abbrev sLaw : Stmt := top 46
abbrev FnP (K : PySem.W.Frag) (x : Str) (st : Stmt) (f : Addr) (fd : FuncData) : Prop := FunD K x x (defArgs st) (defBody st) (defScope st) [] [] f fd
/-! ### the pot -/
structure PotOk (a b c : Int) : Prop where
  a0 : 0 ≤ a
  a1 : a < 10 ^ 300
  b0 : 0 ≤ b
  b1 : b < 2305843009213693921
  c0 : 0 ≤ c
  c1 : c ≤ 10000
/-- at p a pot, its count at most n -/
def Pot (H : Hp) (p : Addr) (n : Int) : Prop := ∃ a b c, H p = some (.lst [.int a, .int b, .int c]) ∧ PotOk a b c ∧ c ≤ n
/-- all but p stays -/
def But (p : Addr) (H H' : Hp) : Prop := ∀ q o, q ≠ p → H q = some o → H' q = some o
theorem But.refl (p : Addr) (H : Hp) : But p H H := fun _ _ _ e => e
theorem But.trans {p : Addr} {H H1 H2 : Hp} (x : But p H H1) (y : But p H1 H2) : But p H H2 := fun q o n e => y q o n (x q o n e)
theorem But.of {p : Addr} {H H1 : Hp} (x : Same H H1) : But p H H1 := fun q o _ e => x q o e
theorem But.upd {p : Addr} {H : Hp} {o : HO} : But p H (upd H p o) := fun q u n e => by rw [upd_ne n]; exact e
theorem But.new {p q : Addr} {H : Hp} {o : HO} (n : H q = none) : But p H (L2.upd H q o) := fun b u _ e => by rw [upd_ne (ne_of_none e n)]; exact e
def spTake : Sp := fun vs H Q _ => ∃ (p : Addr) (u n : Int), vs = [.ref p, .int u] ∧ 0 < u ∧ u ≤ 1000 ∧ Pot H p n ∧ n < 10000 ∧ ∀ (d : Int) (H' : Hp), 0 ≤ d → d < u → Pot H' p (n + 1) → But p H H' → Q (.int d) H'
structure Txt (K : PySem.W.Frag) (mg : Str → Option Value) : Prop where
  int : mg "int" = none
  len : mg "len" = none
  abs : mg "abs" = none
  range : mg "range" = none
section
variable {P : Program} {w : World} {K : PySem.W.Frag} {mg : Str → Option Value} {bse : Heap}
theorem scT : FnScope ["_law_pot", "_law_upto", "_law_digit", "_law_prime", "_law_mixed"] ["_law_pot", "_law_upto"] (defScope sTake) := ⟨rfl, rfl, rfl, by decide +kernel, rfl, by decide +kernel, by decide +kernel⟩
theorem ok_take {f : Addr} {fd : FuncData} (F : FnP K "_law_take" sTake f fd) (T : Txt K mg) : FnOk P w K mg bse CX0 1 f fd ["_law_pot", "_law_upto"] spTake := by
  refine F.ok scT (fun vs H Q E h => ?_) (fun cdv A outer s H vs Q E hr h => ?_)
  · obtain ⟨p, u, n, rfl, _⟩ := h
    rfl
  · obtain ⟨p, u, n, rfl, u0, u1, ⟨a, b, c, hp, po, cn⟩, n1, k⟩ := h
    refine ⟨_, PSs.nox (pss_cons (ps_if (pt_cmpR op_gt (pe_ix ix_list (pv 0) pe_int (fun _ _ => rfl)) pe_int (nomark _))
        (pss_cons (ps_set (i := 2) scT.nd rfl (Or.inl rfl) (pe_op op_mod (pe_callTy call_int1 (by rfl) T.int (by decide +kernel) (pa_cons (pe_ix ix_list (pv 0) pe_int (fun _ _ => rfl)) pa_nil)) (pv 1)))
        (pss_cons (ps_asg (pe_op op_fdiv (pe_ix ix_list (pv 0) pe_int (fun _ _ => rfl)) (pv 1)) (pg_sub (pv 0) pe_int set_list))
        (pss_one (ps_ret (pv 2))))) pss_nil)
      (pss_cons (ps_asg (pe_op op_add (pe_ix ix_list (pv 0) pe_int (fun _ _ => rfl)) pe_int) (pg_sub (pv 0) pe_int set_list))
      (pss_cons (ps_set (i := 3) scT.nd rfl (Or.inl rfl) (pe_ix ix_list (pe_lst (pa_cons pe_int (pa_cons pe_int (pa_cons pe_int (pa_cons pe_int (pa_cons pe_int pa_nil)))))) (pe_op op_mod (pe_callTy call_int1 (by rfl) T.int (by decide +kernel) (pa_cons (pe_ix ix_list (pv 0) pe_int (fun _ _ => rfl)) pa_nil)) pe_int) (fun _ _ => rfl)))
      (pss_cons (ps_set (i := 4) scT.nd rfl (Or.inl rfl) (pe_op op_mod (pe_op op_pow (pe_callTy call_int1 (by rfl) T.int (by decide +kernel) (pa_cons (pe_op op_add (pe_op op_add (pe_ix ix_list (pv 0) pe_int (fun _ _ => rfl)) (pe_op op_mul (pe_op op_mul pe_int (pe_ix ix_list (pv 0) pe_int (fun _ _ => rfl))) (pe_ix ix_list (pv 0) pe_int (fun _ _ => rfl)))) pe_int) pa_nil)) pe_int) (pv 3)))
      (pss_one (ps_ret (pe_op op_mod (pe_op op_fdiv (pe_op op_mod (pe_callTy call_int1 (by rfl) T.int (by decide +kernel) (pa_cons (pe_op op_mul (pv 4) (pe_op op_add (pe_op op_mod (pe_callTy call_int1 (by rfl) T.int (by decide +kernel) (pa_cons (pv 4) pa_nil)) pe_int) (pe_op op_mul pe_int (pe_ix ix_list (pv 0) pe_int (fun _ _ => rfl))))) pa_nil)) pe_int) pe_int) (pv 1)))))))), ?_⟩
    refine ⟨_, rfl, p, _, 0, _, rfl, rfl, SqL.of hp, rfl, _, _, rfl, rfl, _, rfl, ?_⟩
    refine ite2 (fun c0 => ?_) (fun c0 => ?_)
    · refine ⟨_, rfl, p, _, 0, _, rfl, rfl, SqL.of hp, rfl, .inl ⟨a, rfl, _, rfl, _, _, rfl, rfl, u0, ?_⟩⟩
      refine ⟨_, rfl, p, _, 0, _, rfl, rfl, SqL.of hp, rfl, _, rfl, _, _, rfl, rfl, ⟨u0, by omega⟩, _, rfl, p, _, 0, 0, rfl, rfl, hp, rfl, _, rfl, ?_⟩
      refine k _ _ (Int.emod_nonneg _ (by omega)) (Int.emod_lt_of_pos _ u0) ⟨a / u, b, c, upd_same, ⟨Int.ediv_nonneg po.a0 (by omega), Int.lt_of_le_of_lt (Int.ediv_le_self _ po.a0) po.a1, po.b0, po.b1, po.c0, po.c1⟩, by omega⟩ But.upd
    · have cb := po.c0
      refine ⟨_, rfl, p, _, 2, _, rfl, rfl, SqL.of hp, rfl, _, _, rfl, rfl, _, rfl, p, _, 2, 2, rfl, rfl, hp, rfl, ?_⟩
      have h1 : upd H p (.lst [.int a, .int b, .int (c + 1)]) p = some (.lst [.int a, .int b, .int (c + 1)]) := upd_same
      have B1 : But p H (upd H p (.lst [.int a, .int b, .int (c + 1)])) := But.upd
      show tSeq _ _ _ _ (upd H p (.lst [.int a, .int b, .int (c + 1)]))
      generalize upd H p (.lst [.int a, .int b, .int (c + 1)]) = H1 at h1 B1 ⊢
      have m0 : 0 ≤ (c + 1) % 5 := Int.emod_nonneg _ (by omega)
      have m1 : (c + 1) % 5 < 5 := Int.emod_lt_of_pos _ (by omega)
      obtain ⟨m, hm, ml⟩ : ∃ m : Nat, (c + 1) % 5 = (m : Int) ∧ m < 5 := ⟨((c + 1) % 5).toNat, by omega, by omega⟩
      obtain ⟨pr, hpr, prb⟩ : ∃ pr : Int, ([.int 2147483647, .int 2147483629, .int 2147483587, .int 2147483579, .int 2147483563] : List V)[m]? = some (.int pr) ∧ (0 < pr ∧ pr < 2147483648) := by
        match m, ml with
        | 0, _ => exact ⟨_, rfl, by decide⟩
        | 1, _ => exact ⟨_, rfl, by decide⟩
        | 2, _ => exact ⟨_, rfl, by decide⟩
        | 3, _ => exact ⟨_, rfl, by decide⟩
        | 4, _ => exact ⟨_, rfl, by decide⟩
      refine ⟨(by show 5 ≤ sizeLine; decide), fun l hl => ?_⟩
      have npl : p ≠ l := ne_of_none h1 hl
      have h2 : upd H1 l (.lst [.int 2147483647, .int 2147483629, .int 2147483587, .int 2147483579, .int 2147483563]) p = some (.lst [.int a, .int b, .int (c + 1)]) := by rw [upd_ne npl]; exact h1
      have hL : upd H1 l (.lst [.int 2147483647, .int 2147483629, .int 2147483587, .int 2147483579, .int 2147483563]) l = some (.lst [.int 2147483647, .int 2147483629, .int 2147483587, .int 2147483579, .int 2147483563]) := upd_same
      have B2 : But p H (upd H1 l (.lst [.int 2147483647, .int 2147483629, .int 2147483587, .int 2147483579, .int 2147483563])) := B1.trans (But.new hl)
      show tOp _ _ _ _ (upd H1 l (.lst [.int 2147483647, .int 2147483629, .int 2147483587, .int 2147483579, .int 2147483563])) _
      generalize upd H1 l (.lst [.int 2147483647, .int 2147483629, .int 2147483587, .int 2147483579, .int 2147483563]) = H2 at h2 hL B2 ⊢
      refine ⟨_, rfl, p, _, 2, _, rfl, rfl, SqL.of h2, rfl, .inl ⟨c + 1, rfl, _, _, rfl, rfl, (by show (0 : Int) < 5; decide), l, _, _, .int pr, rfl, rfl, SqL.of hL, ?_, ?_⟩⟩
      · rw [hm]; exact atI_nat hpr
      · have c1 := po.c1
        have hc9 : c + 1 ≤ 10000 := by omega
        have q1 : (c + 1) * (c + 1) ≤ 100000000 := Int.le_trans (Int.mul_le_mul_of_nonneg_left hc9 (by omega)) (by omega)
        have q0 : 0 ≤ (c + 1) * (c + 1) := Int.mul_nonneg (by omega) (by omega)
        have b0 := po.b0
        have b1 := po.b1
        refine ⟨_, rfl, p, _, 1, _, rfl, rfl, SqL.of h2, rfl, _, rfl, p, _, 2, _, rfl, rfl, SqL.of h2, rfl, _, _, rfl, rfl, .inl ⟨by decide, by decide⟩, _, rfl, p, _, 2, _, rfl, rfl, SqL.of h2, rfl, _, _, rfl, rfl, .inl ⟨by omega, by omega⟩, _, _, rfl, rfl, _, _, rfl, rfl, .inl ⟨_, rfl, _, _, rfl, rfl, ⟨by decide, by decide, ?_⟩, _, rfl, _, _, rfl, rfl, prb.1, ?_⟩⟩
        · have e : 60041 * (c + 1) * (c + 1) = 60041 * ((c + 1) * (c + 1)) := Int.mul_assoc _ _ _
          rw [e]
          omega
        · generalize hx : (b + 60041 * (c + 1) * (c + 1) + 67) ^ (3 : Int).toNat % pr = x
          have x0 : 0 ≤ x := by rw [← hx]; exact Int.emod_nonneg _ (by omega)
          have x1 : x < pr := by rw [← hx]; exact Int.emod_lt_of_pos _ prb.1
          have prb2 := prb.2
          refine ⟨_, rfl, _, rfl, .inl ⟨_, rfl, _, _, rfl, rfl, (by show (0 : Int) < 10007; decide), _, rfl, p, _, 2, _, rfl, rfl, SqL.of h2, rfl, _, _, rfl, rfl, .inl ⟨by decide, by decide⟩, _, _, rfl, rfl, _, _, rfl, rfl, .inl ⟨by omega, by omega⟩, .inl ⟨_, rfl, _, _, rfl, rfl, (by show (0 : Int) < 2305843009213693951; decide), _, _, rfl, rfl, ⟨by decide, by decide⟩, _, rfl, _, _, rfl, rfl, u0, ?_⟩⟩⟩
          exact k _ _ (Int.emod_nonneg _ (by omega)) (Int.emod_lt_of_pos _ u0) ⟨a, b, c + 1, h2, ⟨po.a0, po.a1, b0, b1, by omega, by omega⟩, by omega⟩ B2
def spOf : Sp := fun vs H Q _ => ∃ (p l : Addr) (n : Int) (xs : List V), vs = [.ref p, .ref l] ∧ Pot H p n ∧ n < 10000 ∧ H l = some (.lst xs) ∧ l ≠ p ∧ 0 < xs.length ∧ xs.length ≤ 1000 ∧
  ∀ (i : Nat) (x : V) (H' : Hp), xs[i]? = some x → Pot H' p (n + 1) → But p H H' → Q x H'
theorem scO : FnScope ["_law_pot", "_law_some"] ["_law_pot", "_law_some"] (defScope sOf) := ⟨rfl, rfl, rfl, by decide +kernel, rfl, by decide +kernel, by decide +kernel⟩
theorem ok_of {f fT : Addr} {fd fdT : FuncData} (F : FnP K "_law_of" sOf f fd) (FT : FnP K "_law_take" sTake fT fdT) (T : Txt K mg) (gT : mg "_law_take" = some (.ref fT)) : FnOk P w K mg bse CX0 2 f fd ["_law_pot", "_law_some"] spOf := by
  have GT : FnOk P w K mg bse CX0 1 fT fdT ["_law_pot", "_law_upto"] spTake := ok_take FT T
  have bT : Binds K fdT ["_law_pot", "_law_upto"] [] := FT.bindsN fun _ _ _ _ _ _ us hl => match us, hl with | [_, _], _ => rfl
  refine F.ok scO (fun vs H Q E h => ?_) (fun cdv A outer s H vs Q E hr h => ?_)
  · obtain ⟨p, l, n, xs, rfl, _⟩ := h
    rfl
  · obtain ⟨p, l, n, xs, rfl, hp, n1, hl, nlp, x0, x1, k⟩ := h
    refine ⟨_, PSs.nox (pss_one (ps_ret (pe_ix ix_list (pv 1) (pe_call GT hr rfl gT FT.kp bT .nil pass0 (pa_cons (pv 0) (pa_cons (pe_callB call_len_seq (by rfl) T.len PySem.boot_len (pa_cons (pv 1) pa_nil)) pa_nil))) (fun _ _ => rfl)))), ?_⟩
    refine ⟨_, rfl, _, rfl, _, rfl, l, _, rfl, .inl (SqL.of hl), p, (xs.length : Int), n, rfl, by omega, by omega, hp, n1, fun d H' d0 d1 hp' B => ?_⟩
    obtain ⟨m, hm, ml⟩ : ∃ m : Nat, d = (m : Int) ∧ m < xs.length := ⟨d.toNat, by omega, by omega⟩
    have hx : xs[m]? = some (xs[m]) := List.getElem?_eq_getElem ml
    exact ⟨l, xs, d, xs[m], rfl, rfl, SqL.of (B l _ nlp hl), by rw [hm]; exact atI_nat hx, k m _ H' hx hp' B⟩
/-! ### _law_pot_of -/
def CPowW (i j : Int) : Prop := 0 ≤ j ∧ (Builtin.Int.intBits i : Int) * j ≤ 2 ^ 27
theorem op_powW {X : Cx} : OpR X (binaryOp .Pow) (rI CPowW fun i j => .int (i ^ j.toNat)) := opI fun _ _ _ _ _ _ _ hc q => pow_int hc.1 hc.2 q
theorem ten_bits : CPowW ((10 : Int) ^ (60 : Int).toNat) 5 := ⟨by decide, by decide +kernel⟩
theorem b01 (b : Bool) : -(2 ^ 64) < (if b = true then (1 : Int) else 0) ∧ (if b = true then (1 : Int) else 0) < 2 ^ 64 := by cases b <;> decide
theorem own01 {y m : Int} (b : Bool) (y0 : 0 ≤ y) (y1 : y < m) : 0 ≤ y * (if b = true then (1 : Int) else 0) ∧ y * (if b = true then (1 : Int) else 0) < m := by
  cases b
  · rw [if_neg Bool.false_ne_true, Int.mul_zero]; exact ⟨Int.le_refl _, Int.lt_of_le_of_lt y0 y1⟩
  · rw [if_pos rfl, Int.mul_one]; exact ⟨y0, y1⟩
def spPot : Sp := fun vs H Q _ => ∃ (a : Addr) (ns : List Int) (k : Int), vs = [.ref a, .int k] ∧ SqL K H a (ns.map V.int) ∧ ns.length ≤ 63 ∧ 0 ≤ k ∧ k ≤ 10 ∧ ∀ (p : Addr) (H' : Hp), H p = none → Pot H' p 0 → Same H H' → Q (.ref p) H'
theorem scP : FnScope ["_law_script", "_law_k", "_law_cell", "_law_own"] ["_law_script", "_law_k"] (defScope sPot) := ⟨rfl, rfl, rfl, by decide +kernel, rfl, by decide +kernel, by decide +kernel⟩
theorem same_new {H : Hp} {p : Addr} {o : HO} (n : H p = none) : Same H (upd H p o) := fun b u e => by rw [upd_ne (ne_of_none e n)]; exact e
theorem ok_pot {f : Addr} {fd : FuncData} (F : FnP K "_law_pot_of" sPot f fd) (T : Txt K mg) : FnOk P w K mg bse CX0 1 f fd ["_law_script", "_law_k"] (spPot (K := K)) := by
  refine F.ok scP (fun vs H Q E h => ?_) (fun cdv A outer s H vs Q E hr h => ?_)
  · obtain ⟨a, ns, k, rfl, _⟩ := h
    rfl
  · obtain ⟨a, ns, k, rfl, hS, hlen, k0, k1, kk⟩ := h
    refine ⟨_, PSs.nox (pss_cons (ps_set (i := 2) scP.nd rfl (Or.inl rfl) (pe_ifExp (pt_cmpR op_lt (pv 1) (pe_callB call_len_seq (by rfl) T.len PySem.boot_len (pa_cons (pv 0) pa_nil)) (nomark _)) (pe_ix ix_list (pv 0) (pv 1) (fun _ _ => rfl)) (pe_op op_add (pe_op op_mul pe_int (pv 1)) pe_int)))
      (pss_cons (ps_set (i := 3) scP.nd rfl (Or.inl rfl) (pe_op op_mul (pe_op op_mod (pe_callTy call_int1 (by rfl) T.int (by decide +kernel) (pa_cons (pe_callB call_abs (by rfl) T.abs (by decide +kernel) (pa_cons (pv 2) pa_nil)) pa_nil)) (pe_op op_powW (pe_op op_pow pe_int pe_int) pe_int))
          (pe_callTy call_int1 (by rfl) T.int (by decide +kernel) (pa_cons (pe_cmpR op_ge (pe_callB call_abs (by rfl) T.abs (by decide +kernel) (pa_cons (pv 2) pa_nil)) (pe_op op_pow pe_int pe_int) (nomark _)) pa_nil))))
      (pss_one (ps_ret (pe_lst (pa_cons (pv 3) (pa_cons (pe_op op_mod (pe_op op_add (pe_op op_add (pe_op op_mul (pe_op op_mod (pe_callTy call_int1 (by rfl) T.int (by decide +kernel) (pa_cons (pv 2) pa_nil)) pe_int) pe_int) (pe_op op_mul (pe_op op_mul pe_int (pv 1)) (pv 1))) pe_int) pe_int) (pa_cons pe_int pa_nil)))))))), ?_⟩
    refine ⟨_, rfl, _, rfl, a, _, rfl, .inl hS, _, _, rfl, rfl, _, rfl, ?_⟩
    rw [List.length_map]
    refine ite2 (fun c => ?ca) (fun c => ?cb)
    case' ca =>
      have c' : k < (ns.length : Int) := of_decide_eq_true c
      obtain ⟨m, hm, ml⟩ : ∃ m : Nat, k = (m : Int) ∧ m < ns.length := ⟨k.toNat, by omega, by omega⟩
      obtain ⟨z, hz⟩ : ∃ z : Int, (ns.map V.int)[m]? = some (.int z) := ⟨ns[m], by rw [List.getElem?_map, List.getElem?_eq_getElem ml]; rfl⟩
      refine ⟨_, rfl, _, rfl, a, _, k, .int z, rfl, rfl, hS, by rw [hm]; exact atI_nat hz, ?_⟩
    case' cb =>
      obtain ⟨z, hz⟩ : ∃ z : Int, 43 * k + 17 = z := ⟨_, rfl⟩
      refine ⟨_, rfl, _, _, rfl, rfl, .inl ⟨by decide, by decide⟩, _, _, rfl, rfl, ?_⟩
      dsimp only
      rw [hz]
    all_goals
      (refine ⟨_, rfl, _, rfl, .inl ⟨_, rfl, _, _, rfl, rfl, ⟨by decide, by decide, by decide⟩, _, _, rfl, rfl, ten_bits, _, _, rfl, rfl, (by show (0 : Int) < (10 ^ (60 : Int).toNat) ^ (5 : Int).toNat; decide +kernel), _, rfl, _, rfl, _, _, rfl, rfl, ⟨by decide, by decide, by decide⟩, _, _, rfl, rfl, .inr ⟨_, rfl, _, _, rfl, rfl, .inr ?_, ?_⟩⟩⟩
       · exact b01 _
       · generalize hx : (if z < 0 then -z else z) % (10 ^ (60 : Int).toNat) ^ (5 : Int).toNat * (if decide ((10 : Int) ^ (18 : Int).toNat ≤ if z < 0 then -z else z) = true then 1 else 0) = x
         have x01 : 0 ≤ x ∧ x < 10 ^ 300 := by
           rw [← hx]
           have e : ((10 : Int) ^ (60 : Int).toNat) ^ (5 : Int).toNat = 10 ^ 300 := by decide +kernel
           rw [e]
           have y0 := Int.emod_nonneg (if z < 0 then -z else z) (show (10 ^ 300 : Int) ≠ 0 by decide +kernel)
           have y1 := Int.emod_lt_of_pos (if z < 0 then -z else z) (show (0 : Int) < 10 ^ 300 by decide +kernel)
           exact own01 _ y0 y1
         refine ⟨_, rfl, _, rfl, .inl ⟨_, rfl, _, _, rfl, rfl, (by show (0 : Int) < 2305843009213693951; decide), _, _, rfl, rfl, .inr ⟨by decide, by decide⟩, _, rfl, _, _, rfl, rfl, .inl ⟨by decide, by decide⟩, _, rfl, _, _, rfl, rfl, .inl ⟨by omega, by omega⟩, _, _, rfl, rfl, _, _, rfl, rfl, _, _, rfl, rfl, (by show (0 : Int) < 2305843009213693921; decide), (by show 3 ≤ sizeLine; decide), fun p hp => ?_⟩⟩
         exact kk p _ hp ⟨x, _, 0, by rw [← hx]; exact upd_same, ⟨x01.1, x01.2, Int.emod_nonneg _ (by decide), Int.emod_lt_of_pos _ (by decide), by decide, by decide⟩, by decide⟩ (same_new hp))
end
end K59
set_option Elab.async false
set_option linter.all false
set_option maxRecDepth 100000
set_option maxHeartbeats 4000000
namespace K59
open PySem PySem.Spec PyProof.Rows L2
/-! ### odd values as data -/
structure Good (n : Nat) (d : PyData) : Prop where
  sh : d.showable = true
  dp : d.depth ≤ 2 + n
  ln : d.shown.length ≤ 20 + 20 * n
theorem Good.mono {n m : Nat} {d : PyData} (g : Good n d) (h : n ≤ m) : Good m d := ⟨g.sh, by have := g.dp; omega, by have := g.ln; omega⟩
theorem good_tup1 {n : Nat} {d : PyData} (g : Good n d) : Good (n + 1) (.tuple [d]) := by
  refine ⟨by simp [PyData.showable, PyData.showableAll, g.sh], ?_, ?_⟩
  · have := g.dp
    simp only [PyData.depth, PyData.depthAll]; omega
  · have := g.ln
    have z := tupleText_len_le [d.shown]
    simp only [List.map_cons, List.map_nil, List.sum_cons, List.sum_nil, List.length_cons, List.length_nil] at z
    simp only [PyData.shown, PyData.shownAll]; omega
theorem good_lst1 {n : Nat} {d : PyData} (g : Good n d) : Good (n + 1) (.list [d]) := by
  refine ⟨by simp [PyData.showable, PyData.showableAll, g.sh], ?_, ?_⟩
  · have := g.dp
    simp only [PyData.depth, PyData.depthAll]; omega
  · have := g.ln
    have z := listText_len_le [d.shown]
    simp only [List.map_cons, List.map_nil, List.sum_cons, List.sum_nil, List.length_cons, List.length_nil] at z
    simp only [PyData.shown, PyData.shownAll]; omega
theorem good_tup2 {n : Nat} {d : PyData} (g : Good n d) : Good (n + 1) (.tuple [d, .int 0]) := by
  refine ⟨by simp [PyData.showable, PyData.showableAll, g.sh], ?_, ?_⟩
  · have := g.dp
    simp only [PyData.depth, PyData.depthAll]; omega
  · have := g.ln
    have z := tupleText_len_le [d.shown, (PyData.int 0).shown]
    have y := PyData.shown_int_le (i := 0) (by decide)
    simp only [List.map_cons, List.map_nil, List.sum_cons, List.sum_nil, List.length_cons, List.length_nil] at z
    simp only [PyData.shown, PyData.shownAll] at z y ⊢; omega
theorem good_dct1 {n : Nat} {d : PyData} (g : Good n d) : Good (n + 1) (.dict [(.str "a", d)]) := by
  refine ⟨by simp [PyData.showable, PyData.showableKv, g.sh], ?_, ?_⟩
  · have := g.dp
    simp only [PyData.depth, PyData.depthKv]; omega
  · have := g.ln
    have z := dictText_len_le [(PyData.str "a").shown ++ ": " ++ d.shown]
    have e : ((PyData.str "a").shown ++ (": " : Str) ++ d.shown).length = 5 + d.shown.length := by
      rw [strLen_append, strLen_append]
      have e1 : (PyData.str "a").shown.length = 3 := by decide +kernel
      rw [e1]; rfl
    simp only [List.map_cons, List.map_nil, List.sum_cons, List.sum_nil, List.length_cons, List.length_nil] at z
    rw [e] at z
    simp only [PyData.shown, PyData.shownKv] at z ⊢; omega
theorem good0 : ∀ d ∈ ([.none, .bool true, .bool false, .int 0, .int 1, .int (-1), .int (10 ^ (11 : Int).toNat), .str "", .str "a", .str "\n", .tuple [], .list [], .dict [], .tuple [.tuple []], .tuple [.str "still", .int 0]] : List PyData), Good 0 d := by
  intro d hd
  have all : (([.none, .bool true, .bool false, .int 0, .int 1, .int (-1), .int (10 ^ (11 : Int).toNat), .str "", .str "a", .str "\n", .tuple [], .list [], .dict [], .tuple [.tuple []], .tuple [.str "still", .int 0]] : List PyData).all fun d => d.showable && (Nat.ble d.depth 2 && Nat.ble d.shown.length 20)) = true := by decide +kernel
  have z := List.all_eq_true.mp all d hd
  obtain ⟨z1, z2⟩ := Bool.and_eq_true_iff.mp z
  obtain ⟨z3, z4⟩ := Bool.and_eq_true_iff.mp z2
  exact ⟨z1, Nat.le_of_ble_eq_true z3, Nat.le_of_ble_eq_true z4⟩
/-- the heap without p -/
def off (p : Addr) (H : Hp) : Hp := fun b => if b = p then none else H b
theorem off_at {p b : Addr} {H : Hp} (n : b ≠ p) : off p H b = H b := if_neg n
theorem off_same {p : Addr} {H H' : Hp} (B : But p H H') : Same (off p H) (off p H') := fun b o e => by
  by_cases z : b = p
  · rw [z] at e
    cases (if_pos rfl).symm.trans e
  · rw [off_at z] at e ⊢
    exact B b o z e
theorem off_sub {p : Addr} {H : Hp} : Same (off p H) H := fun b o e => by
  by_cases z : b = p
  · rw [z] at e
    cases (if_pos rfl).symm.trans e
  · rw [off_at z] at e; exact e
/-- a value that is data, apart from p -/
def Th (p : Addr) (H : Hp) (n : Nat) (v : V) : Prop := ∃ d, Dq (off p H) v d ∧ Good n d
theorem Th.mono {p : Addr} {H H' : Hp} {n : Nat} {v : V} (t : Th p H n v) (B : But p H H') : Th p H' n v := let ⟨d, h, g⟩ := t; ⟨d, h.mono (off_same B), g⟩
theorem off_new {p q : Addr} {H : Hp} {o : HO} (n : q ≠ p) : off p (upd H q o) q = some o := by rw [off_at n]; exact upd_same
theorem DqA.get {H : Hp} : ∀ {vs : List V} {ds : List PyData} {i : Nat} {v : V}, DqA H vs ds → vs[i]? = some v → ∃ d, ds[i]? = some d ∧ Dq H v d
  | _, _, _, _, .nil, e => by simp at e
  | _, _, 0, _, .cons h _, e => by
    simp at e
    subst e
    exact ⟨_, rfl, h⟩
  | _, _, i + 1, v, .cons _ t, e => by
    obtain ⟨d, h1, h2⟩ := DqA.get (i := i) (v := v) t (by simpa using e)
    exact ⟨d, by simpa using h1, h2⟩
def spOdd : Sp := fun vs H Q _ => ∃ (p : Addr) (n : Int), vs = [.ref p] ∧ Pot H p n ∧ 0 ≤ n ∧ n + 50 < 10000 ∧ ∀ (v : V) (H' : Hp), Pot H' p (n + 40) → Th p H' 40 v → But p H H' → Q v H'
theorem Pot.mono {H : Hp} {p : Addr} {n m : Int} (h : Pot H p n) (l : n ≤ m) : Pot H p m := let ⟨a, b, c, h1, h2, h3⟩ := h; ⟨a, b, c, h1, h2, by omega⟩
theorem Pot.but {H : Hp} {p q : Addr} {n : Int} {o : HO} (h : Pot H p n) (hq : H q = none) : Pot (upd H q o) p n := let ⟨a, b, c, h1, h2, h3⟩ := h; ⟨a, b, c, by rw [upd_ne (ne_of_none h1 hq)]; exact h1, h2, h3⟩
theorem Pot.same {H H' : Hp} {p : Addr} {n : Int} (h : Pot H p n) (S : Same H H') : Pot H' p n := let ⟨a, b, c, h1, h2, h3⟩ := h; ⟨a, b, c, S _ _ h1, h2, h3⟩
theorem Pot.ne {H : Hp} {p q : Addr} {n : Int} (h : Pot H p n) (hq : H q = none) : q ≠ p := let ⟨_, _, _, h1, _, _⟩ := h; (ne_of_none h1 hq).symm
section
variable {P : Program} {w : World} {K : PySem.W.Frag} {mg : Str → Option Value} {bse : Heap}
theorem scD : FnScope ["_law_pot", "_law_some", "_law_found", "_law_turn"] ["_law_pot"] (defScope sOdd) := ⟨rfl, rfl, rfl, by decide +kernel, rfl, by decide +kernel, by decide +kernel⟩
theorem ok_odd {f fO : Addr} {fd fdO : FuncData} (F : FnP K "_law_odd" sOdd f fd) (FO : FnP K "_law_of" sOf fO fdO) (GO : FnOk P w K mg bse CX0 2 fO fdO ["_law_pot", "_law_some"] spOf) (T : Txt K mg) (gO : mg "_law_of" = some (.ref fO)) : FnOk P w K mg bse CX0 3 f fd ["_law_pot"] spOdd := by
  have bO : Binds K fdO ["_law_pot", "_law_some"] [] := FO.bindsN fun _ _ _ _ _ _ us hl => match us, hl with | [_, _], _ => rfl
  refine F.ok scD (fun vs H Q E h => ?_) (fun cdv A outer s H vs Q E hr h => ?_)
  · obtain ⟨p, n, rfl, _⟩ := h
    rfl
  · obtain ⟨p, n, rfl, hp, n0, n1, k⟩ := h
    refine ⟨_, PSs.nox (pss_cons (ps_set (i := 1) scD.nd rfl (Or.inl rfl) (pe_lst (pa_cons pe_non (pa_cons pe_bl (pa_cons pe_bl (pa_cons pe_int (pa_cons pe_int (pa_cons (pe_un un_neg pe_int) (pa_cons (pe_op op_pow pe_int pe_int) (pa_cons pe_str (pa_cons pe_str (pa_cons pe_str (pa_cons (pe_tup pa_nil) (pa_cons (pe_lst pa_nil) (pa_cons pe_dnewK (pa_cons (pe_tup (pa_cons (pe_tup pa_nil) pa_nil)) (pa_cons (pe_tup (pa_cons pe_str (pa_cons pe_int pa_nil))) pa_nil)))))))))))))))))
      (pss_cons (ps_set (i := 2) scD.nd rfl (Or.inl rfl) (pe_call GO hr rfl gO FO.kp bO .nil pass0 (pa_cons (pv 0) (pa_cons (pv 1) pa_nil))))
      (pss_cons (ps_for PassesOwn.never rfl (pi_range1 rfl T.range (pa_cons (pe_call GO hr rfl gO FO.kp bO .nil pass0 (pa_cons (pv 0) (pa_cons (pe_lst (pa_cons pe_int (pa_cons pe_int (pa_cons pe_int (pa_cons pe_int (pa_cons pe_int pa_nil)))))) pa_nil))) pa_nil)) (pg_name (i := 3) scD.nd rfl (Or.inl rfl))
        (pss_one (ps_set (i := 2) scD.nd rfl (Or.inl rfl) (pe_call GO hr rfl gO FO.kp bO .nil pass0 (pa_cons (pv 0) (pa_cons (pe_lst (pa_cons (pe_tup (pa_cons (pv 2) pa_nil)) (pa_cons (pe_lst (pa_cons (pv 2) pa_nil)) (pa_cons (pe_disp (pps_cons pe_str (pv 2) pps_nil) (by rfl) (by rfl) (fun z => by cases z) (by decide)) (pa_cons (pe_tup (pa_cons (pv 2) (pa_cons pe_int pa_nil))) pa_nil))))) pa_nil))))))
      (pss_one (ps_ret (pv 2)))))), ?_⟩
    refine ⟨_, rfl, _, _, rfl, rfl, ⟨by decide, by decide, by decide⟩, Nat.zero_le _, fun t1 e1 => ⟨Nat.zero_le _, fun l1 e2 => fun d1 e3 => ⟨Nat.zero_le _, fun t2 e4 => ⟨(by show 1 ≤ sizeLine; decide), fun t3 e5 => ⟨(by show 2 ≤ sizeLine; decide), fun t4 e6 => ⟨(by show 15 ≤ sizeLine; decide), fun l0 e7 => ?_⟩⟩⟩⟩⟩⟩
    generalize hH1 : upd H t1 (.tup []) = H1 at *
    generalize hH2 : upd H1 l1 (.lst []) = H2 at *
    generalize hH3 : upd H2 d1 (.dK []) = H3 at *
    generalize hH4 : upd H3 t2 (.tup []) = H4 at *
    generalize hH5 : upd H4 t3 (.tup [.ref t2]) = H5 at *
    generalize hH6 : upd H5 t4 (.tup [.str "still", .int 0]) = H6 at *
    have S1 : Same H H1 := by rw [← hH1]; exact same_new e1
    have S2 : Same H1 H2 := by rw [← hH2]; exact same_new e2
    have S3 : Same H2 H3 := by rw [← hH3]; exact same_new e3
    have S4 : Same H3 H4 := by rw [← hH4]; exact same_new e4
    have S5 : Same H4 H5 := by rw [← hH5]; exact same_new e5
    have S6 : Same H5 H6 := by rw [← hH6]; exact same_new e6
    have x1 : H1 t1 = some (.tup []) := by rw [← hH1]; exact upd_same
    have x2 : H2 l1 = some (.lst []) := by rw [← hH2]; exact upd_same
    have x3 : H3 d1 = some (.dK []) := by rw [← hH3]; exact upd_same
    have x4 : H4 t2 = some (.tup []) := by rw [← hH4]; exact upd_same
    have x5 : H5 t3 = some (.tup [.ref t2]) := by rw [← hH5]; exact upd_same
    have x6 : H6 t4 = some (.tup [.str "still", .int 0]) := by rw [← hH6]; exact upd_same
    have SH : Same H H6 := S1.trans (S2.trans (S3.trans (S4.trans (S5.trans S6))))
    have n1' := hp.ne e1
    have n2' := (hp.same S1).ne e2
    have n3' := (hp.same (S1.trans S2)).ne e3
    have n4' := (hp.same (S1.trans (S2.trans S3))).ne e4
    have n5' := (hp.same (S1.trans (S2.trans (S3.trans S4)))).ne e5
    have n6' := (hp.same (S1.trans (S2.trans (S3.trans (S4.trans S5))))).ne e6
    have n7' := (hp.same SH).ne e7
    generalize hH7 : upd H6 l0 _ = H7
    have S7 : Same H6 H7 := by rw [← hH7]; exact same_new e7
    have x7 : H7 l0 = some (.lst [.non, .bl true, .bl false, .int 0, .int 1, .int (-1), .int (10 ^ (11 : Int).toNat), .str "", .str "a", .str "\n", .ref t1, .ref l1, .ref d1, .ref t3, .ref t4]) := by rw [← hH7]; exact upd_same
    have D : DqA (off p H7) [.non, .bl true, .bl false, .int 0, .int 1, .int (-1), .int (10 ^ (11 : Int).toNat), .str "", .str "a", .str "\n", .ref t1, .ref l1, .ref d1, .ref t3, .ref t4]
        [.none, .bool true, .bool false, .int 0, .int 1, .int (-1), .int (10 ^ (11 : Int).toNat), .str "", .str "a", .str "\n", .tuple [], .list [], .dict [], .tuple [.tuple []], .tuple [.str "still", .int 0]] := by
      have y1 : off p H7 t1 = some (.tup []) := (off_at n1').trans (S7 _ _ (S6 _ _ (S5 _ _ (S4 _ _ (S3 _ _ (S2 _ _ x1))))))
      have y2 : off p H7 l1 = some (.lst []) := (off_at n2').trans (S7 _ _ (S6 _ _ (S5 _ _ (S4 _ _ (S3 _ _ x2)))))
      have y3 : off p H7 d1 = some (.dK []) := (off_at n3').trans (S7 _ _ (S6 _ _ (S5 _ _ (S4 _ _ x3))))
      have y4 : off p H7 t2 = some (.tup []) := (off_at n4').trans (S7 _ _ (S6 _ _ (S5 _ _ x4)))
      have y5 : off p H7 t3 = some (.tup [.ref t2]) := (off_at n5').trans (S7 _ _ (S6 _ _ x5))
      have y6 : off p H7 t4 = some (.tup [.str "still", .int 0]) := (off_at n6').trans (S7 _ _ x6)
      exact .cons .non (.cons (.bl _) (.cons (.bl _) (.cons (.int _) (.cons (.int _) (.cons (.int _) (.cons (.int _) (.cons (.str _) (.cons (.str _) (.cons (.str _) (.cons (.tup y1 .nil) (.cons (.lst y2 .nil) (.cons (.dct (kvs := []) (ds := []) y3 .nil) (.cons (.tup y5 (.cons (.tup y4 .nil) .nil)) (.cons (.tup y6 (.cons (.str _) (.cons (.int _) .nil))) .nil))))))))))))))
    refine ⟨_, rfl, _, rfl, p, l0, n, _, rfl, (hp.same SH).same S7, by omega, x7, n7', (by show 0 < 15; decide), (by show 15 ≤ 1000; decide), fun i x H8 hx hp8 B8 => ?_⟩
    obtain ⟨dd, hd, hq⟩ := DqA.get D hx
    have th0 : Th p H8 0 x := ⟨dd, hq.mono (off_same B8), good0 dd (List.mem_of_getElem? hd)⟩
    have BH : But p H H8 := (But.of (SH.trans S7)).trans B8
    refine ⟨_, rfl, (by show 5 ≤ sizeLine; decide), fun l2 e8 => ⟨p, l2, n + 1, _, rfl, hp8.but e8, by omega, upd_same, hp8.ne e8, by decide, by decide, fun i2 z H9 hz hp9 B9 => ?_⟩⟩
    obtain ⟨j, ej, j0, j1⟩ : ∃ j : Int, z = .int j ∧ 0 ≤ j ∧ j ≤ 38 := by
      match i2, hz with
      | 0, hz => exact ⟨0, (Option.some.inj hz).symm, by decide, by decide⟩
      | 1, hz => exact ⟨0, (Option.some.inj hz).symm, by decide, by decide⟩
      | 2, hz => exact ⟨1, (Option.some.inj hz).symm, by decide, by decide⟩
      | 3, hz => exact ⟨2, (Option.some.inj hz).symm, by decide, by decide⟩
      | 4, hz => exact ⟨38, (Option.some.inj hz).symm, by decide, by decide⟩
      | _ + 5, hz => cases hz
    subst ej
    have B89 : But p H8 H9 := (But.new e8).trans B9
    refine ⟨j, rfl, by omega, by omega, for_range (lo := 0) (n := j.toNat) (fun m σ H' => ∃ (v : V) (tv : Option V), σ = [some (.ref p), some (.ref l0), some v, tv] ∧ Pot H' p (n + 2 + m) ∧ Th p H' m v ∧ But p H H') ⟨x, none, rfl, by simpa [Int.add_assoc] using hp9, th0.mono B89, BH.trans B89⟩ ?_ ?_⟩
    · rintro m σ H' hm ⟨v, tv, rfl, hpm, thm, Bm⟩
      obtain ⟨d, hq, g⟩ := thm
      refine ⟨_, rfl, _, rfl, (by show 1 ≤ sizeLine; decide), fun a1 f1 => ⟨_, rfl, (by show 1 ≤ sizeLine; decide), fun a2 f2 => fun a3 f3 => ⟨_, rfl, upd_same, [(.inr "a", v)], rfl, by show 1 ≤ 15; decide, _, rfl, (by show 2 ≤ sizeLine; decide), fun a4 f4 => ⟨(by show 4 ≤ sizeLine; decide), fun l f5 => ?_⟩⟩⟩⟩
      rw [upd_upd] at f4 f5 ⊢
      have em : mergeK [] [((.inr "a" : Key), v)] = [(.inr "a", v)] := rfl
      rw [em] at f4 f5 ⊢
      generalize hG1 : upd H' a1 (.tup [v]) = G1 at *
      generalize hG2 : upd G1 a2 (.lst [v]) = G2 at *
      generalize hG3 : upd G2 a3 (.dK [(.inr "a", v)]) = G3 at *
      generalize hG4 : upd G3 a4 (.tup [v, .int 0]) = G4 at *
      have R1 : Same H' G1 := by rw [← hG1]; exact same_new f1
      have R2 : Same G1 G2 := by rw [← hG2]; exact same_new f2
      have R3 : Same G2 G3 := by rw [← hG3]; exact same_new f3
      have R4 : Same G3 G4 := by rw [← hG4]; exact same_new f4
      have y1 : G1 a1 = some (.tup [v]) := by rw [← hG1]; exact upd_same
      have y2 : G2 a2 = some (.lst [v]) := by rw [← hG2]; exact upd_same
      have y3 : G3 a3 = some (.dK [(.inr "a", v)]) := by rw [← hG3]; exact upd_same
      have y4 : G4 a4 = some (.tup [v, .int 0]) := by rw [← hG4]; exact upd_same
      have m1 := hpm.ne f1
      have m2 := (hpm.same R1).ne f2
      have m3 := (hpm.same (R1.trans R2)).ne f3
      have m4 := (hpm.same (R1.trans (R2.trans R3))).ne f4
      have R14 : Same H' G4 := R1.trans (R2.trans (R3.trans R4))
      have m5 := (hpm.same R14).ne f5
      have R5 : Same G4 (upd G4 l (.lst [.ref a1, .ref a2, .ref a3, .ref a4])) := same_new f5
      have y5 : upd G4 l (.lst [.ref a1, .ref a2, .ref a3, .ref a4]) l = some (.lst [.ref a1, .ref a2, .ref a3, .ref a4]) := upd_same
      generalize upd G4 l (.lst [.ref a1, .ref a2, .ref a3, .ref a4]) = G5 at R5 y5 ⊢
      have R15 := R14.trans R5
      have hq5 : Dq (off p G5) v d := hq.mono (off_same (But.of R15))
      have D : DqA (off p G5) [.ref a1, .ref a2, .ref a3, .ref a4] [.tuple [d], .list [d], .dict [(.str "a", d)], .tuple [d, .int 0]] := by
        have z1 : off p G5 a1 = some (.tup [v]) := (off_at m1).trans (R5 _ _ (R4 _ _ (R3 _ _ (R2 _ _ y1))))
        have z2 : off p G5 a2 = some (.lst [v]) := (off_at m2).trans (R5 _ _ (R4 _ _ (R3 _ _ y2)))
        have z3 : off p G5 a3 = some (.dK [(.inr "a", v)]) := (off_at m3).trans (R5 _ _ (R4 _ _ y3))
        have z4 : off p G5 a4 = some (.tup [v, .int 0]) := (off_at m4).trans (R5 _ _ y4)
        exact .cons (.tup z1 (.cons hq5 .nil)) (.cons (.lst z2 (.cons hq5 .nil)) (.cons (.dct (kvs := [(.inr "a", v)]) (ds := [d]) z3 (.cons hq5 .nil)) (.cons (.tup z4 (.cons hq5 (.cons (.int 0) .nil))) .nil)))
      refine ⟨p, l, n + 2 + m, _, rfl, hpm.same R15, by omega, y5, m5, (by show 0 < 4; decide), (by show 4 ≤ 1000; decide), fun i x H5 hx hp5 B5 => ?_⟩
      obtain ⟨d5, hd5, hq6⟩ := DqA.get D hx
      have g5 : Good (m + 1) d5 := by
        match i, hd5 with
        | 0, hd5 => cases hd5; exact good_tup1 g
        | 1, hd5 => cases hd5; exact good_lst1 g
        | 2, hd5 => cases hd5; exact good_dct1 g
        | 3, hd5 => cases hd5; exact good_tup2 g
        | _ + 4, hd5 => cases hd5
      exact ⟨x, _, rfl, by have z := hp5; rw [show n + 2 + ((m + 1 : Nat) : Int) = n + 2 + (m : Int) + 1 by omega]; exact z, ⟨d5, hq6.mono (off_same B5), g5⟩, Bm.trans ((But.of R15).trans B5)⟩
    · rintro σ H' ⟨v, tv, rfl, hpm, ⟨d, hq, g⟩, Bm⟩
      refine ⟨_, rfl, k v H' (hpm.mono (by omega)) ⟨d, hq, g.mono (by omega)⟩ Bm⟩
end
end K59
set_option Elab.async false
set_option linter.all false
set_option maxRecDepth 100000
set_option maxHeartbeats 4000000
namespace K59
open PySem PySem.Spec PyProof.Rows L2
def names : List Str := (["BadBook", "BadContent", "BadCount", "BadCrew"] : List Str) ++ (["BadEnd", "BadEvent", "BadFacts", "BadGoal"] : List Str) ++ (["BadHouse", "BadLine", "BadLog", "BadMarks"] : List Str) ++ (["BadMill", "BadPrices", "BadProgram", "BadQuestion"] : List Str) ++ (["BadQuestions", "BadStand", "BadSteps", "BadText"] : List Str) ++ (["BadTruth", "BadWay", "BadWork", "BadWorld"] : List Str) ++ (["Clash", "Full", "NoFile", "NoMark", "NoStep"] : List Str) ++ (["NothingToUndo", "NoTrial", "NotSure"] : List Str) ++ (["NotUnderWay", "NoWorld", "TooMany", "UnderWay"] : List Str)
theorem m_BadBook : ("BadBook" : Str) ∈ names := by decide +kernel
theorem m_BadContent : ("BadContent" : Str) ∈ names := by decide +kernel
theorem m_BadCount : ("BadCount" : Str) ∈ names := by decide +kernel
theorem m_BadCrew : ("BadCrew" : Str) ∈ names := by decide +kernel
theorem m_BadEnd : ("BadEnd" : Str) ∈ names := by decide +kernel
theorem m_BadEvent : ("BadEvent" : Str) ∈ names := by decide +kernel
theorem m_BadFacts : ("BadFacts" : Str) ∈ names := by decide +kernel
theorem m_BadGoal : ("BadGoal" : Str) ∈ names := by decide +kernel
theorem m_BadHouse : ("BadHouse" : Str) ∈ names := by decide +kernel
theorem m_BadLine : ("BadLine" : Str) ∈ names := by decide +kernel
theorem m_BadLog : ("BadLog" : Str) ∈ names := by decide +kernel
theorem m_BadMarks : ("BadMarks" : Str) ∈ names := by decide +kernel
theorem m_BadMill : ("BadMill" : Str) ∈ names := by decide +kernel
theorem m_BadPrices : ("BadPrices" : Str) ∈ names := by decide +kernel
theorem m_BadProgram : ("BadProgram" : Str) ∈ names := by decide +kernel
theorem m_BadQuestion : ("BadQuestion" : Str) ∈ names := by decide +kernel
theorem m_BadQuestions : ("BadQuestions" : Str) ∈ names := by decide +kernel
theorem m_BadStand : ("BadStand" : Str) ∈ names := by decide +kernel
theorem m_BadSteps : ("BadSteps" : Str) ∈ names := by decide +kernel
theorem m_BadText : ("BadText" : Str) ∈ names := by decide +kernel
theorem m_BadTruth : ("BadTruth" : Str) ∈ names := by decide +kernel
theorem m_BadWay : ("BadWay" : Str) ∈ names := by decide +kernel
theorem m_BadWork : ("BadWork" : Str) ∈ names := by decide +kernel
theorem m_BadWorld : ("BadWorld" : Str) ∈ names := by decide +kernel
theorem m_Clash : ("Clash" : Str) ∈ names := by decide +kernel
theorem m_Full : ("Full" : Str) ∈ names := by decide +kernel
theorem m_NoFile : ("NoFile" : Str) ∈ names := by decide +kernel
theorem m_NoMark : ("NoMark" : Str) ∈ names := by decide +kernel
theorem m_NoStep : ("NoStep" : Str) ∈ names := by decide +kernel
theorem m_NothingToUndo : ("NothingToUndo" : Str) ∈ names := by decide +kernel
theorem m_NoTrial : ("NoTrial" : Str) ∈ names := by decide +kernel
theorem m_NotSure : ("NotSure" : Str) ∈ names := by decide +kernel
theorem m_NotUnderWay : ("NotUnderWay" : Str) ∈ names := by decide +kernel
theorem m_NoWorld : ("NoWorld" : Str) ∈ names := by decide +kernel
theorem m_TooMany : ("TooMany" : Str) ∈ names := by decide +kernel
theorem m_UnderWay : ("UnderWay" : Str) ∈ names := by decide +kernel
/-- what the written part says of the errors -/
structure Ers (P : Program) (K : PySem.W.Frag) (mg : Str → Option Value) (D fI cc cda : Addr) : Prop where
  se : SE.SeTxt P K D fI cc cda
  cl : ∀ {x : Str}, x ∈ names → SE.SeCls K D fI (He.ga K x) ∧ ErrIs K (He.ga K x) ∧ mg x = some (.ref (He.ga K x))
  kit : ∀ {x y : Str}, x ∈ names → y ∈ names → PySem.W.kitOne K (.ref (He.ga K x)) (.ref (He.ga K y)) = some (decide (x = y))
  sup : mg "super" = none
  isin : mg "isinstance" = none
theorem ErrAt.mono {H H' : Hp} {a C : Addr} {v : V} (h : ErrAt H a C v) (S : Same H H') : ErrAt H' a C v := let ⟨d, h1, h2⟩ := h; ⟨d, S _ _ h1, S _ _ h2⟩
/-! ### a list of errors -/
def tErrs : List Addr → TE → TA
  | [], _ => tNil
  | C :: r, te => tCons (tErr C te) (tErrs r te)
abbrev Errs (H : Hp) (v : V) (as Cs : List Addr) : Prop := Paired (fun a C => ErrAt H a C v) as Cs
theorem Errs.mono {H H' : Hp} {v : V} (S : Same H H') : ∀ {as Cs : List Addr}, Errs H v as Cs → Errs H' v as Cs
  | _, _, .nil => .nil
  | _, _, .cons h t => .cons (ErrAt.mono h S) (Errs.mono S t)
theorem Errs.app {H : Hp} {v : V} : ∀ {as Cs bs Ds : List Addr}, Errs H v as Cs → Errs H v bs Ds → Errs H v (as ++ bs) (Cs ++ Ds)
  | _, _, _, _, .nil, y => y
  | _, _, _, _, .cons h t, y => .cons h (Errs.app t y)
theorem errs_read {σ : L2.St} {v : V} (hv : σ[0]? = some (some v)) : ∀ (Cs : List Addr) (H : Hp) (Q : List V → Hp → Prop), (∀ H' as, Same H H' → Errs H' v as Cs → Q (as.map .ref) H') → tErrs Cs (tVar 0) σ H Q
  | [], H, Q, h => h H [] (Same.refl _) .nil
  | C :: r, H, Q, h => ⟨v, hv, fun a d na nd ne => errs_read hv r _ _ fun H' as S E => by
    have S0 : Same H (upd (upd H d (.xd [(("value" : Str), v)])) a (exo a C (some d))) := fun b o e => by
      rw [upd_ne (ne_of_none e na), upd_ne (ne_of_none e nd)]; exact e
    exact h H' (a :: as) (S0.trans S) (.cons ⟨d, S _ _ upd_same, S _ _ (by rw [upd_ne ne]; exact upd_same)⟩ E)⟩
theorem made_first {Cs : List Addr} {rest : TS} {D : Ends} {v : V} {H : Hp} (h : ∀ H' l as, Same H H' → H' l = some (.lst (as.map .ref)) → Errs H' v as Cs → rest D [some v, some (.ref l)] H') (hl : Cs.length ≤ 100 := by decide) :
    tSeq (tAsg (tLst (tErrs Cs (tVar 0))) (gName 1)) rest D [some v, none] H :=
  errs_read rfl Cs H _ fun H' as S E => ⟨by rw [List.length_map, Paired.length E, sizeLine_eq]; omega, fun l el => h _ l as (S.trans (same_new el)) upd_same (E.mono (same_new el))⟩
theorem made_step {Cs0 Cs as0 : List Addr} {rest : TS} {D : Ends} {v : V} {H : Hp} {l0 : Addr} (x0 : H l0 = some (.lst (as0.map .ref))) (E0 : Errs H v as0 Cs0) (hl : Cs0.length + Cs.length ≤ 100)
    (h : ∀ H' l as, Same H H' → H' l = some (.lst (as.map .ref)) → Errs H' v as (Cs0 ++ Cs) → rest D [some v, some (.ref l)] H') :
    tSeq (tAsg (tOp rCat (tVar 1) (tLst (tErrs Cs (tVar 0)))) (gName 1)) rest D [some v, some (.ref l0)] H :=
  ⟨_, rfl, errs_read rfl Cs H _ fun H' as S E => ⟨by rw [List.length_map, Paired.length E, sizeLine_eq]; omega, fun l el => ⟨l0, l, _, _, rfl, rfl, (same_new el) _ _ (S _ _ x0), upd_same, by rw [List.length_map, List.length_map, Paired.length E, Paired.length E0, sizeLine_eq]; omega, fun p ep => by
    have S2 := (same_new (o := .lst (as.map .ref)) el).trans (same_new (o := .lst (as0.map .ref ++ as.map .ref)) ep)
    exact h _ p (as0 ++ as) (S.trans S2) (by rw [List.map_append]; exact upd_same) ((E0.mono (S.trans S2)).app (E.mono S2))⟩⟩⟩
def spMade (K : PySem.W.Frag) : Sp := fun vs H Q _ => ∃ v : V, vs = [v] ∧ ∀ (H' : Hp) (l : Addr) (as : List Addr), Same H H' → H' l = some (.lst (as.map .ref)) → Errs H' v as (names.map (He.ga K)) → Q (.ref l) H'
/-! ### of which classes an error is -/
/-- isinstance(one, C), .. -/
def tIsis (K : PySem.W.Frag) : List Str → TA
  | [] => tNil
  | x :: r => tCons (tCB (rIsErr K) (tCons (tVar 0) (tCons (tC (.ref (He.ga K x))) tNil))) (tIsis K r)
section
variable {P : Program} {w : World} {K : PySem.W.Frag} {mg : Str → Option Value} {bse : Heap} {D fI cc cda : Addr}
theorem isis_read (T : Ers P K mg D fI cc cda) {σ : L2.St} {a : Addr} {v : V} {x : Str} (hv : σ[0]? = some (some (.ref a))) (hx : x ∈ names) {H : Hp} (E : ErrAt H a (He.ga K x) v) : ∀ (ys : List Str) (Q : List V → Hp → Prop), (∀ y ∈ ys, y ∈ names) → Q (ys.map fun y => .bl (decide (x = y))) H → tIsis K ys σ H Q
  | [], Q, _, h => h
  | y :: r, Q, hy, h => ⟨_, hv, a, _, v, _, .ref (He.ga K y), _, rfl, E, (T.cl hx).2.1, fun u z => z, T.kit hx (hy y List.mem_cons_self), isis_read T hv hx E r _ (fun z hz => hy z (List.mem_cons_of_mem _ hz)) h⟩
theorem all_in {ys : List Str} (h : (ys.all fun y => decide (y ∈ names)) = true) : ∀ y ∈ ys, y ∈ names := fun y hy => of_decide_eq_true (List.all_eq_true.mp h y hy)
theorem sorts_first (T : Ers P K mg D fI cc cda) {x : Str} (hx : x ∈ names) {a : Addr} {v : V} {H : Hp} (E : ErrAt H a (He.ga K x) v) (ys : List Str) (hy : (ys.all fun y => decide (y ∈ names)) = true) {rest : TS} {Dn : Ends}
    (h : ∀ H' l, Same H H' → H' l = some (.lst (ys.map fun y => .bl (decide (x = y)))) → rest Dn [some (.ref a), some (.ref l)] H') (hl : ys.length ≤ 100 := by decide) :
    tSeq (tAsg (tLst (tIsis K ys)) (gName 1)) rest Dn [some (.ref a), none] H :=
  isis_read T rfl hx E ys _ (all_in hy) ⟨by rw [List.length_map, sizeLine_eq]; omega, fun l el => h _ l (same_new el) upd_same⟩
theorem sorts_step (T : Ers P K mg D fI cc cda) {x : Str} (hx : x ∈ names) {a : Addr} {v : V} {H : Hp} (E : ErrAt H a (He.ga K x) v) (zs ys : List Str) (hy : (ys.all fun y => decide (y ∈ names)) = true) {l0 : Addr} (x0 : H l0 = some (.lst (zs.map fun y => .bl (decide (x = y))))) (hl : zs.length + ys.length ≤ 100) {rest : TS} {Dn : Ends}
    (h : ∀ H' l, Same H H' → H' l = some (.lst ((zs ++ ys).map fun y => .bl (decide (x = y)))) → rest Dn [some (.ref a), some (.ref l)] H') :
    tSeq (tAsg (tOp rCat (tVar 1) (tLst (tIsis K ys))) (gName 1)) rest Dn [some (.ref a), some (.ref l0)] H :=
  ⟨_, rfl, isis_read T rfl hx E ys _ (all_in hy) ⟨by rw [List.length_map, sizeLine_eq]; omega, fun l el => ⟨l0, l, _, _, rfl, rfl, (same_new el) _ _ x0, upd_same, by rw [List.length_map, List.length_map, sizeLine_eq]; omega, fun p ep =>
    h _ p ((same_new el).trans (same_new ep)) (by rw [List.map_append]; exact upd_same)⟩⟩⟩
def spSorts (K : PySem.W.Frag) : Sp := fun vs H Q _ => ∃ (a : Addr) (v : V) (x : Str), vs = [.ref a] ∧ x ∈ names ∧ ErrAt H a (He.ga K x) v ∧ ∀ (H' : Hp) (l : Addr), Same H H' → H' l = some (.lst (names.map fun y => .bl (decide (x = y)))) → Q (.ref l) H'
theorem scM : FnScope ["_law_thing", "_law_found"] ["_law_thing"] (defScope sMade) := ⟨rfl, rfl, rfl, by decide +kernel, rfl, by decide +kernel, by decide +kernel⟩
theorem scS : FnScope ["_law_one", "_law_found"] ["_law_one"] (defScope sSorts) := ⟨rfl, rfl, rfl, by decide +kernel, rfl, by decide +kernel, by decide +kernel⟩
theorem ok_made {f : Addr} {fd : FuncData} (F : FnP K "_law_made" sMade f fd) (T : Ers P K mg D fI cc cda) : FnOk P w K mg bse CX0 2 f fd ["_law_thing"] (spMade K) := by
  refine F.ok scM (fun vs H Q E h => ?_) (fun cdv A outer s H vs Q E hr h => ?_)
  · obtain ⟨v, rfl, _⟩ := h
    rfl
  · obtain ⟨v, rfl, k⟩ := h
    refine ⟨_, PSs.nox (pss_cons (ps_set (i := 1) scM.nd rfl (Or.inl rfl) (pe_lst (pa_cons (pe_err T.se (T.cl (m_BadBook)).1 hr T.sup (T.cl (m_BadBook)).2.2 rfl (pv 0)) (pa_cons (pe_err T.se (T.cl (m_BadContent)).1 hr T.sup (T.cl (m_BadContent)).2.2 rfl (pv 0)) (pa_cons (pe_err T.se (T.cl (m_BadCount)).1 hr T.sup (T.cl (m_BadCount)).2.2 rfl (pv 0)) (pa_cons (pe_err T.se (T.cl (m_BadCrew)).1 hr T.sup (T.cl (m_BadCrew)).2.2 rfl (pv 0)) pa_nil)))))) 
      (pss_cons (ps_set (i := 1) scM.nd rfl (Or.inl rfl) (pe_op op_cat (pv 1) (pe_lst (pa_cons (pe_err T.se (T.cl (m_BadEnd)).1 hr T.sup (T.cl (m_BadEnd)).2.2 rfl (pv 0)) (pa_cons (pe_err T.se (T.cl (m_BadEvent)).1 hr T.sup (T.cl (m_BadEvent)).2.2 rfl (pv 0)) (pa_cons (pe_err T.se (T.cl (m_BadFacts)).1 hr T.sup (T.cl (m_BadFacts)).2.2 rfl (pv 0)) (pa_cons (pe_err T.se (T.cl (m_BadGoal)).1 hr T.sup (T.cl (m_BadGoal)).2.2 rfl (pv 0)) pa_nil))))))) 
      (pss_cons (ps_set (i := 1) scM.nd rfl (Or.inl rfl) (pe_op op_cat (pv 1) (pe_lst (pa_cons (pe_err T.se (T.cl (m_BadHouse)).1 hr T.sup (T.cl (m_BadHouse)).2.2 rfl (pv 0)) (pa_cons (pe_err T.se (T.cl (m_BadLine)).1 hr T.sup (T.cl (m_BadLine)).2.2 rfl (pv 0)) (pa_cons (pe_err T.se (T.cl (m_BadLog)).1 hr T.sup (T.cl (m_BadLog)).2.2 rfl (pv 0)) (pa_cons (pe_err T.se (T.cl (m_BadMarks)).1 hr T.sup (T.cl (m_BadMarks)).2.2 rfl (pv 0)) pa_nil))))))) 
      (pss_cons (ps_set (i := 1) scM.nd rfl (Or.inl rfl) (pe_op op_cat (pv 1) (pe_lst (pa_cons (pe_err T.se (T.cl (m_BadMill)).1 hr T.sup (T.cl (m_BadMill)).2.2 rfl (pv 0)) (pa_cons (pe_err T.se (T.cl (m_BadPrices)).1 hr T.sup (T.cl (m_BadPrices)).2.2 rfl (pv 0)) (pa_cons (pe_err T.se (T.cl (m_BadProgram)).1 hr T.sup (T.cl (m_BadProgram)).2.2 rfl (pv 0)) (pa_cons (pe_err T.se (T.cl (m_BadQuestion)).1 hr T.sup (T.cl (m_BadQuestion)).2.2 rfl (pv 0)) pa_nil))))))) 
      (pss_cons (ps_set (i := 1) scM.nd rfl (Or.inl rfl) (pe_op op_cat (pv 1) (pe_lst (pa_cons (pe_err T.se (T.cl (m_BadQuestions)).1 hr T.sup (T.cl (m_BadQuestions)).2.2 rfl (pv 0)) (pa_cons (pe_err T.se (T.cl (m_BadStand)).1 hr T.sup (T.cl (m_BadStand)).2.2 rfl (pv 0)) (pa_cons (pe_err T.se (T.cl (m_BadSteps)).1 hr T.sup (T.cl (m_BadSteps)).2.2 rfl (pv 0)) (pa_cons (pe_err T.se (T.cl (m_BadText)).1 hr T.sup (T.cl (m_BadText)).2.2 rfl (pv 0)) pa_nil))))))) 
      (pss_cons (ps_set (i := 1) scM.nd rfl (Or.inl rfl) (pe_op op_cat (pv 1) (pe_lst (pa_cons (pe_err T.se (T.cl (m_BadTruth)).1 hr T.sup (T.cl (m_BadTruth)).2.2 rfl (pv 0)) (pa_cons (pe_err T.se (T.cl (m_BadWay)).1 hr T.sup (T.cl (m_BadWay)).2.2 rfl (pv 0)) (pa_cons (pe_err T.se (T.cl (m_BadWork)).1 hr T.sup (T.cl (m_BadWork)).2.2 rfl (pv 0)) (pa_cons (pe_err T.se (T.cl (m_BadWorld)).1 hr T.sup (T.cl (m_BadWorld)).2.2 rfl (pv 0)) pa_nil))))))) 
      (pss_cons (ps_set (i := 1) scM.nd rfl (Or.inl rfl) (pe_op op_cat (pv 1) (pe_lst (pa_cons (pe_err T.se (T.cl (m_Clash)).1 hr T.sup (T.cl (m_Clash)).2.2 rfl (pv 0)) (pa_cons (pe_err T.se (T.cl (m_Full)).1 hr T.sup (T.cl (m_Full)).2.2 rfl (pv 0)) (pa_cons (pe_err T.se (T.cl (m_NoFile)).1 hr T.sup (T.cl (m_NoFile)).2.2 rfl (pv 0)) (pa_cons (pe_err T.se (T.cl (m_NoMark)).1 hr T.sup (T.cl (m_NoMark)).2.2 rfl (pv 0)) (pa_cons (pe_err T.se (T.cl (m_NoStep)).1 hr T.sup (T.cl (m_NoStep)).2.2 rfl (pv 0)) pa_nil)))))))) 
      (pss_cons (ps_set (i := 1) scM.nd rfl (Or.inl rfl) (pe_op op_cat (pv 1) (pe_lst (pa_cons (pe_err T.se (T.cl (m_NothingToUndo)).1 hr T.sup (T.cl (m_NothingToUndo)).2.2 rfl (pv 0)) (pa_cons (pe_err T.se (T.cl (m_NoTrial)).1 hr T.sup (T.cl (m_NoTrial)).2.2 rfl (pv 0)) (pa_cons (pe_err T.se (T.cl (m_NotSure)).1 hr T.sup (T.cl (m_NotSure)).2.2 rfl (pv 0)) pa_nil)))))) 
      (pss_cons (ps_set (i := 1) scM.nd rfl (Or.inl rfl) (pe_op op_cat (pv 1) (pe_lst (pa_cons (pe_err T.se (T.cl (m_NotUnderWay)).1 hr T.sup (T.cl (m_NotUnderWay)).2.2 rfl (pv 0)) (pa_cons (pe_err T.se (T.cl (m_NoWorld)).1 hr T.sup (T.cl (m_NoWorld)).2.2 rfl (pv 0)) (pa_cons (pe_err T.se (T.cl (m_TooMany)).1 hr T.sup (T.cl (m_TooMany)).2.2 rfl (pv 0)) (pa_cons (pe_err T.se (T.cl (m_UnderWay)).1 hr T.sup (T.cl (m_UnderWay)).2.2 rfl (pv 0)) pa_nil))))))) 
      (pss_one (ps_ret (pv 1)))))))))))), ?_⟩
    exact made_first (Cs := (["BadBook", "BadContent", "BadCount", "BadCrew"] : List Str).map (He.ga K)) (v := v) (hl := by show 4 ≤ 100; decide) (fun H1 l1 as1 S1 x1 E1 => 
      made_step (Cs := (["BadEnd", "BadEvent", "BadFacts", "BadGoal"] : List Str).map (He.ga K)) x1 E1 (by show 4 + 4 ≤ 100; decide) (fun H2 l2 as2 S2 x2 E2 => 
      made_step (Cs := (["BadHouse", "BadLine", "BadLog", "BadMarks"] : List Str).map (He.ga K)) x2 E2 (by show 8 + 4 ≤ 100; decide) (fun H3 l3 as3 S3 x3 E3 => 
      made_step (Cs := (["BadMill", "BadPrices", "BadProgram", "BadQuestion"] : List Str).map (He.ga K)) x3 E3 (by show 12 + 4 ≤ 100; decide) (fun H4 l4 as4 S4 x4 E4 => 
      made_step (Cs := (["BadQuestions", "BadStand", "BadSteps", "BadText"] : List Str).map (He.ga K)) x4 E4 (by show 16 + 4 ≤ 100; decide) (fun H5 l5 as5 S5 x5 E5 => 
      made_step (Cs := (["BadTruth", "BadWay", "BadWork", "BadWorld"] : List Str).map (He.ga K)) x5 E5 (by show 20 + 4 ≤ 100; decide) (fun H6 l6 as6 S6 x6 E6 => 
      made_step (Cs := (["Clash", "Full", "NoFile", "NoMark", "NoStep"] : List Str).map (He.ga K)) x6 E6 (by show 24 + 5 ≤ 100; decide) (fun H7 l7 as7 S7 x7 E7 => 
      made_step (Cs := (["NothingToUndo", "NoTrial", "NotSure"] : List Str).map (He.ga K)) x7 E7 (by show 29 + 3 ≤ 100; decide) (fun H8 l8 as8 S8 x8 E8 => 
      made_step (Cs := (["NotUnderWay", "NoWorld", "TooMany", "UnderWay"] : List Str).map (He.ga K)) x8 E8 (by show 32 + 4 ≤ 100; decide) (fun H9 l9 as9 S9 x9 E9 => 
      ⟨_, rfl, k H9 l9 as9 (((((((((S1).trans S2).trans S3).trans S4).trans S5).trans S6).trans S7).trans S8).trans S9) x9 E9⟩)))))))))
theorem ok_sorts {f : Addr} {fd : FuncData} (F : FnP K "_law_sorts" sSorts f fd) (T : Ers P K mg D fI cc cda) : FnOk P w K mg bse CX0 1 f fd ["_law_one"] (spSorts K) := by
  refine F.ok scS (fun vs H Q E h => ?_) (fun cdv A outer s H vs Q E hr h => ?_)
  · obtain ⟨a, v, x, rfl, _⟩ := h
    rfl
  · obtain ⟨a, v, x, rfl, hx, E0, k⟩ := h
    refine ⟨_, PSs.nox (pss_cons (ps_set (i := 1) scS.nd rfl (Or.inl rfl) (pe_lst (pa_cons (pe_callB call_isErr (by rfl) T.isin (by decide +kernel) (pa_cons (pv 0) (pa_cons (pe_glob (v := .ref (He.ga K "BadBook")) rfl (T.cl (m_BadBook)).2.2 rfl) pa_nil))) (pa_cons (pe_callB call_isErr (by rfl) T.isin (by decide +kernel) (pa_cons (pv 0) (pa_cons (pe_glob (v := .ref (He.ga K "BadContent")) rfl (T.cl (m_BadContent)).2.2 rfl) pa_nil))) pa_nil)))) 
      (pss_cons (ps_set (i := 1) scS.nd rfl (Or.inl rfl) (pe_op op_cat (pv 1) (pe_lst (pa_cons (pe_callB call_isErr (by rfl) T.isin (by decide +kernel) (pa_cons (pv 0) (pa_cons (pe_glob (v := .ref (He.ga K "BadCount")) rfl (T.cl (m_BadCount)).2.2 rfl) pa_nil))) (pa_cons (pe_callB call_isErr (by rfl) T.isin (by decide +kernel) (pa_cons (pv 0) (pa_cons (pe_glob (v := .ref (He.ga K "BadCrew")) rfl (T.cl (m_BadCrew)).2.2 rfl) pa_nil))) pa_nil))))) 
      (pss_cons (ps_set (i := 1) scS.nd rfl (Or.inl rfl) (pe_op op_cat (pv 1) (pe_lst (pa_cons (pe_callB call_isErr (by rfl) T.isin (by decide +kernel) (pa_cons (pv 0) (pa_cons (pe_glob (v := .ref (He.ga K "BadEnd")) rfl (T.cl (m_BadEnd)).2.2 rfl) pa_nil))) (pa_cons (pe_callB call_isErr (by rfl) T.isin (by decide +kernel) (pa_cons (pv 0) (pa_cons (pe_glob (v := .ref (He.ga K "BadEvent")) rfl (T.cl (m_BadEvent)).2.2 rfl) pa_nil))) pa_nil))))) 
      (pss_cons (ps_set (i := 1) scS.nd rfl (Or.inl rfl) (pe_op op_cat (pv 1) (pe_lst (pa_cons (pe_callB call_isErr (by rfl) T.isin (by decide +kernel) (pa_cons (pv 0) (pa_cons (pe_glob (v := .ref (He.ga K "BadFacts")) rfl (T.cl (m_BadFacts)).2.2 rfl) pa_nil))) (pa_cons (pe_callB call_isErr (by rfl) T.isin (by decide +kernel) (pa_cons (pv 0) (pa_cons (pe_glob (v := .ref (He.ga K "BadGoal")) rfl (T.cl (m_BadGoal)).2.2 rfl) pa_nil))) pa_nil))))) 
      (pss_cons (ps_set (i := 1) scS.nd rfl (Or.inl rfl) (pe_op op_cat (pv 1) (pe_lst (pa_cons (pe_callB call_isErr (by rfl) T.isin (by decide +kernel) (pa_cons (pv 0) (pa_cons (pe_glob (v := .ref (He.ga K "BadHouse")) rfl (T.cl (m_BadHouse)).2.2 rfl) pa_nil))) (pa_cons (pe_callB call_isErr (by rfl) T.isin (by decide +kernel) (pa_cons (pv 0) (pa_cons (pe_glob (v := .ref (He.ga K "BadLine")) rfl (T.cl (m_BadLine)).2.2 rfl) pa_nil))) pa_nil))))) 
      (pss_cons (ps_set (i := 1) scS.nd rfl (Or.inl rfl) (pe_op op_cat (pv 1) (pe_lst (pa_cons (pe_callB call_isErr (by rfl) T.isin (by decide +kernel) (pa_cons (pv 0) (pa_cons (pe_glob (v := .ref (He.ga K "BadLog")) rfl (T.cl (m_BadLog)).2.2 rfl) pa_nil))) (pa_cons (pe_callB call_isErr (by rfl) T.isin (by decide +kernel) (pa_cons (pv 0) (pa_cons (pe_glob (v := .ref (He.ga K "BadMarks")) rfl (T.cl (m_BadMarks)).2.2 rfl) pa_nil))) pa_nil))))) 
      (pss_cons (ps_set (i := 1) scS.nd rfl (Or.inl rfl) (pe_op op_cat (pv 1) (pe_lst (pa_cons (pe_callB call_isErr (by rfl) T.isin (by decide +kernel) (pa_cons (pv 0) (pa_cons (pe_glob (v := .ref (He.ga K "BadMill")) rfl (T.cl (m_BadMill)).2.2 rfl) pa_nil))) (pa_cons (pe_callB call_isErr (by rfl) T.isin (by decide +kernel) (pa_cons (pv 0) (pa_cons (pe_glob (v := .ref (He.ga K "BadPrices")) rfl (T.cl (m_BadPrices)).2.2 rfl) pa_nil))) pa_nil))))) 
      (pss_cons (ps_set (i := 1) scS.nd rfl (Or.inl rfl) (pe_op op_cat (pv 1) (pe_lst (pa_cons (pe_callB call_isErr (by rfl) T.isin (by decide +kernel) (pa_cons (pv 0) (pa_cons (pe_glob (v := .ref (He.ga K "BadProgram")) rfl (T.cl (m_BadProgram)).2.2 rfl) pa_nil))) (pa_cons (pe_callB call_isErr (by rfl) T.isin (by decide +kernel) (pa_cons (pv 0) (pa_cons (pe_glob (v := .ref (He.ga K "BadQuestion")) rfl (T.cl (m_BadQuestion)).2.2 rfl) pa_nil))) pa_nil))))) 
      (pss_cons (ps_set (i := 1) scS.nd rfl (Or.inl rfl) (pe_op op_cat (pv 1) (pe_lst (pa_cons (pe_callB call_isErr (by rfl) T.isin (by decide +kernel) (pa_cons (pv 0) (pa_cons (pe_glob (v := .ref (He.ga K "BadQuestions")) rfl (T.cl (m_BadQuestions)).2.2 rfl) pa_nil))) (pa_cons (pe_callB call_isErr (by rfl) T.isin (by decide +kernel) (pa_cons (pv 0) (pa_cons (pe_glob (v := .ref (He.ga K "BadStand")) rfl (T.cl (m_BadStand)).2.2 rfl) pa_nil))) pa_nil))))) 
      (pss_cons (ps_set (i := 1) scS.nd rfl (Or.inl rfl) (pe_op op_cat (pv 1) (pe_lst (pa_cons (pe_callB call_isErr (by rfl) T.isin (by decide +kernel) (pa_cons (pv 0) (pa_cons (pe_glob (v := .ref (He.ga K "BadSteps")) rfl (T.cl (m_BadSteps)).2.2 rfl) pa_nil))) (pa_cons (pe_callB call_isErr (by rfl) T.isin (by decide +kernel) (pa_cons (pv 0) (pa_cons (pe_glob (v := .ref (He.ga K "BadText")) rfl (T.cl (m_BadText)).2.2 rfl) pa_nil))) pa_nil))))) 
      (pss_cons (ps_set (i := 1) scS.nd rfl (Or.inl rfl) (pe_op op_cat (pv 1) (pe_lst (pa_cons (pe_callB call_isErr (by rfl) T.isin (by decide +kernel) (pa_cons (pv 0) (pa_cons (pe_glob (v := .ref (He.ga K "BadTruth")) rfl (T.cl (m_BadTruth)).2.2 rfl) pa_nil))) (pa_cons (pe_callB call_isErr (by rfl) T.isin (by decide +kernel) (pa_cons (pv 0) (pa_cons (pe_glob (v := .ref (He.ga K "BadWay")) rfl (T.cl (m_BadWay)).2.2 rfl) pa_nil))) pa_nil))))) 
      (pss_cons (ps_set (i := 1) scS.nd rfl (Or.inl rfl) (pe_op op_cat (pv 1) (pe_lst (pa_cons (pe_callB call_isErr (by rfl) T.isin (by decide +kernel) (pa_cons (pv 0) (pa_cons (pe_glob (v := .ref (He.ga K "BadWork")) rfl (T.cl (m_BadWork)).2.2 rfl) pa_nil))) (pa_cons (pe_callB call_isErr (by rfl) T.isin (by decide +kernel) (pa_cons (pv 0) (pa_cons (pe_glob (v := .ref (He.ga K "BadWorld")) rfl (T.cl (m_BadWorld)).2.2 rfl) pa_nil))) pa_nil))))) 
      (pss_cons (ps_set (i := 1) scS.nd rfl (Or.inl rfl) (pe_op op_cat (pv 1) (pe_lst (pa_cons (pe_callB call_isErr (by rfl) T.isin (by decide +kernel) (pa_cons (pv 0) (pa_cons (pe_glob (v := .ref (He.ga K "Clash")) rfl (T.cl (m_Clash)).2.2 rfl) pa_nil))) (pa_cons (pe_callB call_isErr (by rfl) T.isin (by decide +kernel) (pa_cons (pv 0) (pa_cons (pe_glob (v := .ref (He.ga K "Full")) rfl (T.cl (m_Full)).2.2 rfl) pa_nil))) (pa_cons (pe_callB call_isErr (by rfl) T.isin (by decide +kernel) (pa_cons (pv 0) (pa_cons (pe_glob (v := .ref (He.ga K "NoFile")) rfl (T.cl (m_NoFile)).2.2 rfl) pa_nil))) pa_nil)))))) 
      (pss_cons (ps_set (i := 1) scS.nd rfl (Or.inl rfl) (pe_op op_cat (pv 1) (pe_lst (pa_cons (pe_callB call_isErr (by rfl) T.isin (by decide +kernel) (pa_cons (pv 0) (pa_cons (pe_glob (v := .ref (He.ga K "NoMark")) rfl (T.cl (m_NoMark)).2.2 rfl) pa_nil))) (pa_cons (pe_callB call_isErr (by rfl) T.isin (by decide +kernel) (pa_cons (pv 0) (pa_cons (pe_glob (v := .ref (He.ga K "NoStep")) rfl (T.cl (m_NoStep)).2.2 rfl) pa_nil))) pa_nil))))) 
      (pss_cons (ps_set (i := 1) scS.nd rfl (Or.inl rfl) (pe_op op_cat (pv 1) (pe_lst (pa_cons (pe_callB call_isErr (by rfl) T.isin (by decide +kernel) (pa_cons (pv 0) (pa_cons (pe_glob (v := .ref (He.ga K "NothingToUndo")) rfl (T.cl (m_NothingToUndo)).2.2 rfl) pa_nil))) (pa_cons (pe_callB call_isErr (by rfl) T.isin (by decide +kernel) (pa_cons (pv 0) (pa_cons (pe_glob (v := .ref (He.ga K "NoTrial")) rfl (T.cl (m_NoTrial)).2.2 rfl) pa_nil))) pa_nil))))) 
      (pss_cons (ps_set (i := 1) scS.nd rfl (Or.inl rfl) (pe_op op_cat (pv 1) (pe_lst (pa_cons (pe_callB call_isErr (by rfl) T.isin (by decide +kernel) (pa_cons (pv 0) (pa_cons (pe_glob (v := .ref (He.ga K "NotSure")) rfl (T.cl (m_NotSure)).2.2 rfl) pa_nil))) (pa_cons (pe_callB call_isErr (by rfl) T.isin (by decide +kernel) (pa_cons (pv 0) (pa_cons (pe_glob (v := .ref (He.ga K "NotUnderWay")) rfl (T.cl (m_NotUnderWay)).2.2 rfl) pa_nil))) pa_nil))))) 
      (pss_cons (ps_set (i := 1) scS.nd rfl (Or.inl rfl) (pe_op op_cat (pv 1) (pe_lst (pa_cons (pe_callB call_isErr (by rfl) T.isin (by decide +kernel) (pa_cons (pv 0) (pa_cons (pe_glob (v := .ref (He.ga K "NoWorld")) rfl (T.cl (m_NoWorld)).2.2 rfl) pa_nil))) (pa_cons (pe_callB call_isErr (by rfl) T.isin (by decide +kernel) (pa_cons (pv 0) (pa_cons (pe_glob (v := .ref (He.ga K "TooMany")) rfl (T.cl (m_TooMany)).2.2 rfl) pa_nil))) pa_nil))))) 
      (pss_cons (ps_set (i := 1) scS.nd rfl (Or.inl rfl) (pe_op op_cat (pv 1) (pe_lst (pa_cons (pe_callB call_isErr (by rfl) T.isin (by decide +kernel) (pa_cons (pv 0) (pa_cons (pe_glob (v := .ref (He.ga K "UnderWay")) rfl (T.cl (m_UnderWay)).2.2 rfl) pa_nil))) pa_nil)))) 
      (pss_one (ps_ret (pv 1))))))))))))))))))))), ?_⟩
    exact sorts_first T hx E0 ["BadBook", "BadContent"] (by decide +kernel) (fun H1 l1 S1 x1 => 
      sorts_step T hx (ErrAt.mono E0 (S1)) _ ["BadCount", "BadCrew"] (by decide +kernel) x1 (by show 2 + 2 ≤ 100; decide) (fun H2 l2 S2 x2 => 
      sorts_step T hx (ErrAt.mono E0 ((S1).trans S2)) _ ["BadEnd", "BadEvent"] (by decide +kernel) x2 (by show 4 + 2 ≤ 100; decide) (fun H3 l3 S3 x3 => 
      sorts_step T hx (ErrAt.mono E0 (((S1).trans S2).trans S3)) _ ["BadFacts", "BadGoal"] (by decide +kernel) x3 (by show 6 + 2 ≤ 100; decide) (fun H4 l4 S4 x4 => 
      sorts_step T hx (ErrAt.mono E0 ((((S1).trans S2).trans S3).trans S4)) _ ["BadHouse", "BadLine"] (by decide +kernel) x4 (by show 8 + 2 ≤ 100; decide) (fun H5 l5 S5 x5 => 
      sorts_step T hx (ErrAt.mono E0 (((((S1).trans S2).trans S3).trans S4).trans S5)) _ ["BadLog", "BadMarks"] (by decide +kernel) x5 (by show 10 + 2 ≤ 100; decide) (fun H6 l6 S6 x6 => 
      sorts_step T hx (ErrAt.mono E0 ((((((S1).trans S2).trans S3).trans S4).trans S5).trans S6)) _ ["BadMill", "BadPrices"] (by decide +kernel) x6 (by show 12 + 2 ≤ 100; decide) (fun H7 l7 S7 x7 => 
      sorts_step T hx (ErrAt.mono E0 (((((((S1).trans S2).trans S3).trans S4).trans S5).trans S6).trans S7)) _ ["BadProgram", "BadQuestion"] (by decide +kernel) x7 (by show 14 + 2 ≤ 100; decide) (fun H8 l8 S8 x8 => 
      sorts_step T hx (ErrAt.mono E0 ((((((((S1).trans S2).trans S3).trans S4).trans S5).trans S6).trans S7).trans S8)) _ ["BadQuestions", "BadStand"] (by decide +kernel) x8 (by show 16 + 2 ≤ 100; decide) (fun H9 l9 S9 x9 => 
      sorts_step T hx (ErrAt.mono E0 (((((((((S1).trans S2).trans S3).trans S4).trans S5).trans S6).trans S7).trans S8).trans S9)) _ ["BadSteps", "BadText"] (by decide +kernel) x9 (by show 18 + 2 ≤ 100; decide) (fun H10 l10 S10 x10 => 
      sorts_step T hx (ErrAt.mono E0 ((((((((((S1).trans S2).trans S3).trans S4).trans S5).trans S6).trans S7).trans S8).trans S9).trans S10)) _ ["BadTruth", "BadWay"] (by decide +kernel) x10 (by show 20 + 2 ≤ 100; decide) (fun H11 l11 S11 x11 => 
      sorts_step T hx (ErrAt.mono E0 (((((((((((S1).trans S2).trans S3).trans S4).trans S5).trans S6).trans S7).trans S8).trans S9).trans S10).trans S11)) _ ["BadWork", "BadWorld"] (by decide +kernel) x11 (by show 22 + 2 ≤ 100; decide) (fun H12 l12 S12 x12 => 
      sorts_step T hx (ErrAt.mono E0 ((((((((((((S1).trans S2).trans S3).trans S4).trans S5).trans S6).trans S7).trans S8).trans S9).trans S10).trans S11).trans S12)) _ ["Clash", "Full", "NoFile"] (by decide +kernel) x12 (by show 24 + 3 ≤ 100; decide) (fun H13 l13 S13 x13 => 
      sorts_step T hx (ErrAt.mono E0 (((((((((((((S1).trans S2).trans S3).trans S4).trans S5).trans S6).trans S7).trans S8).trans S9).trans S10).trans S11).trans S12).trans S13)) _ ["NoMark", "NoStep"] (by decide +kernel) x13 (by show 27 + 2 ≤ 100; decide) (fun H14 l14 S14 x14 => 
      sorts_step T hx (ErrAt.mono E0 ((((((((((((((S1).trans S2).trans S3).trans S4).trans S5).trans S6).trans S7).trans S8).trans S9).trans S10).trans S11).trans S12).trans S13).trans S14)) _ ["NothingToUndo", "NoTrial"] (by decide +kernel) x14 (by show 29 + 2 ≤ 100; decide) (fun H15 l15 S15 x15 => 
      sorts_step T hx (ErrAt.mono E0 (((((((((((((((S1).trans S2).trans S3).trans S4).trans S5).trans S6).trans S7).trans S8).trans S9).trans S10).trans S11).trans S12).trans S13).trans S14).trans S15)) _ ["NotSure", "NotUnderWay"] (by decide +kernel) x15 (by show 31 + 2 ≤ 100; decide) (fun H16 l16 S16 x16 => 
      sorts_step T hx (ErrAt.mono E0 ((((((((((((((((S1).trans S2).trans S3).trans S4).trans S5).trans S6).trans S7).trans S8).trans S9).trans S10).trans S11).trans S12).trans S13).trans S14).trans S15).trans S16)) _ ["NoWorld", "TooMany"] (by decide +kernel) x16 (by show 33 + 2 ≤ 100; decide) (fun H17 l17 S17 x17 => 
      sorts_step T hx (ErrAt.mono E0 (((((((((((((((((S1).trans S2).trans S3).trans S4).trans S5).trans S6).trans S7).trans S8).trans S9).trans S10).trans S11).trans S12).trans S13).trans S14).trans S15).trans S16).trans S17)) _ ["UnderWay"] (by decide +kernel) x17 (by show 35 + 1 ≤ 100; decide) (fun H18 l18 S18 x18 => 
      ⟨_, rfl, k H18 l18 ((((((((((((((((((S1).trans S2).trans S3).trans S4).trans S5).trans S6).trans S7).trans S8).trans S9).trans S10).trans S11).trans S12).trans S13).trans S14).trans S15).trans S16).trans S17).trans S18) x18⟩))))))))))))))))))
end
end K59
set_option Elab.async false
set_option linter.all false
set_option maxRecDepth 100000
set_option maxHeartbeats 4000000
namespace K59
open PySem PySem.Spec PyProof.Rows L2
/-- what else the written part says -/
structure Mre (K : PySem.W.Frag) (mg : Str → Option Value) (D : Addr) : Prop where
  sys : (K.lookup sysModules).isSome = true
  kitS : ∀ {x : Str}, x ∈ names → PySem.W.kitOne K (.ref (He.ga K x)) (.ref D) = some true
  kitV : ∀ {x : Str}, x ∈ names → PySem.W.kitOne K (.ref (He.ga K x)) (.type "ValueError") = some true
  gS : mg "StepError" = some (.ref D)
  ve : mg "ValueError" = none
  rp : mg "repr" = none
  en : mg "enumerate" = none
  mx : mg "max" = none
  mn : mg "min" = none
  al : mg "all" = none
theorem dp_bools {K : PySem.W.Frag} {H : Hp} : ∀ bs : List Bool, DpAll K H (bs.map .bl) (bs.map .bool)
  | [] => .nil
  | b :: r => .cons (.bl b) (dp_bools r)
theorem lay_bools : ∀ bs : List Bool, PyData.canLayAll0 (bs.map .bool) = true ∧ PyData.depthAll (bs.map .bool) = 0
  | [] => ⟨by simp [PyData.canLayAll0], by simp [PyData.depthAll]⟩
  | b :: r => by
    obtain ⟨h1, h2⟩ := lay_bools r
    exact ⟨by simp [PyData.canLayAll0, PyData.canLay0, h1], by simp [PyData.depthAll, PyData.depth, h2]⟩
theorem shaped_bools (bs : List Bool) : SeqAt.shaped (.list (bs.map .bool)) = true := by
  obtain ⟨h1, h2⟩ := lay_bools bs
  unfold SeqAt.shaped
  simp [PyData.canLay0, PyData.depth, h1, h2]
theorem tab : ∀ i : Fin 36, (names.map fun y => decide (names.getD i.1 "" = y)) = (List.range 36).map fun j => decide (i.1 = j) := by decide +kernel
theorem dec_int (i m : Nat) : decide (V.int (i : Int) = V.int (0 + (m : Int))) = decide (i = m) := by
  rw [Int.zero_add]
  by_cases z : i = m
  · rw [decide_eq_true z, decide_eq_true (by rw [z])]
  · rw [decide_eq_false z, decide_eq_false (fun y => z (by have := V.int.inj y; omega))]
def spRight : Sp := fun vs H Q _ => ∃ (p : Addr) (n : Int), vs = [.ref p] ∧ Pot H p n ∧ 0 ≤ n ∧ n + 50 < 10000 ∧ ∀ H' : Hp, Pot H' p (n + 40) → But p H H' → Q (.bl true) H'
theorem Paired.get {α β : Type} {R : α → β → Prop} : ∀ {l : List α} {m : List β} {i : Nat} {a : α}, Paired R l m → l[i]? = some a → ∃ b, m[i]? = some b ∧ R a b
  | _, _, _, _, .nil, e => by simp at e
  | _, _, 0, _, .cons h _, e => by
    simp at e
    subst e
    exact ⟨_, rfl, h⟩
  | _, _, i + 1, a, .cons _ t, e => by
    obtain ⟨b, h1, h2⟩ := Paired.get (i := i) (a := a) t (by simpa using e)
    exact ⟨b, by simpa using h1, h2⟩
section
variable {P : Program} {w : World} {K : PySem.W.Frag} {mg : Str → Option Value} {bse : Heap} {D fI cc cda : Addr}
theorem scR : FnScope ["_law_pot", "_law_thing", "_law_some", "_law_at", "_law_one", "_law_k"] ["_law_pot"] (defScope sRight) := ⟨rfl, rfl, rfl, by decide +kernel, rfl, by decide +kernel, by decide +kernel⟩
theorem ok_right {f fD fM fS : Addr} {fd fdD fdM fdS : FuncData} (F : FnP K "_law_right" sRight f fd) (T0 : Txt K mg) (T : Ers P K mg D fI cc cda) (M : Mre K mg D)
    (FD : FnP K "_law_odd" sOdd fD fdD) (GD : FnOk P w K mg bse CX0 3 fD fdD ["_law_pot"] spOdd) (gD : mg "_law_odd" = some (.ref fD))
    (FM : FnP K "_law_made" sMade fM fdM) (GM : FnOk P w K mg bse CX0 2 fM fdM ["_law_thing"] (spMade K)) (gM : mg "_law_made" = some (.ref fM))
    (FS : FnP K "_law_sorts" sSorts fS fdS) (GS : FnOk P w K mg bse CX0 1 fS fdS ["_law_one"] (spSorts K)) (gS : mg "_law_sorts" = some (.ref fS)) :
    FnG P w K mg bse CX0 4 f fd ["_law_pot"] spRight := by
  have bD : Binds K fdD ["_law_pot"] [] := FD.bindsN fun _ _ _ _ _ _ us hl => match us, hl with | [_], _ => rfl
  have bM : Binds K fdM ["_law_thing"] [] := FM.bindsN fun _ _ _ _ _ _ us hl => match us, hl with | [_], _ => rfl
  have bS : Binds K fdS ["_law_one"] [] := FS.bindsN fun _ _ _ _ _ _ us hl => match us, hl with | [_], _ => rfl
  refine F.okG scR (fun vs H Q E h => ?_) (fun cdv A outer s H vs Q E hgd hr h => ?_)
  · obtain ⟨p, n, rfl, _⟩ := h
    rfl
  · obtain ⟨p, n, rfl, hp, n0, n1, k⟩ := h
    have hr1 : Room 1 _ := hr.mono (by decide)
    have hr2 : Room 2 _ := hr.mono (by decide)
    refine ⟨_, pss_cons (ps_set (i := 1) scR.nd rfl (Or.inl rfl) (pe_call GD hr rfl gD FD.kp bD .nil pass0 (pa_cons (pv 0) pa_nil)))
      (pss_cons (ps_set (i := 2) scR.nd rfl (Or.inl rfl) (pe_call GM hr2 rfl gM FM.kp bM .nil pass0 (pa_cons (pv 1) pa_nil)))
      (pss_cons (ps_for PassesOwn.never rfl (pi_enum (by rfl) M.en (pa_cons (pv 2) pa_nil)) (pg_tup rfl (pgs_cons (pg_name (i := 3) scR.nd rfl (Or.inr rfl)) (pgs_cons (pg_name (i := 4) scR.nd rfl (Or.inl rfl)) pgs_nil)))
        (pss_cons (ps_if (pt_cmpR (op_neD hr.units) (pe_call GS hr1 rfl gS FS.kp bS .nil pass0 (pa_cons (pv 4) pa_nil))
            (pe_lc (own := [("_law_k", 5)]) (g := gName 5) (tt := tYes) rfl scR.nd (pi_range1 rfl T0.range (pa_cons (pe_callB call_len_seq (by rfl) T0.len PySem.boot_len (pa_cons (pv 2) pa_nil)) pa_nil)) (blkOk_by (N := ["_law_pot", "_law_thing", "_law_some", "_law_at", "_law_one", "_law_k"]) (sc := defScope sRight) (by decide +kernel))
              (fun _ _ _ _ _ => pg_name (i := 5) scR.nd rfl (Or.inl rfl)) (fun _ _ _ _ _ => pts_nil) (fun _ _ _ _ _ => pe_cmpR op_eq (pv 3) (pv 5) (nomark _))) (nomark _)) (pss_one (ps_ret pe_bl)) pss_nil)
        (pss_one (ps_if (PW.pt (pw_or (pt_not (pt_val (pe_callB call_isErr (by rfl) T.isin (by decide +kernel) (pa_cons (pv 4) (pa_cons (pe_glob (v := .ref D) rfl M.gS rfl) pa_nil)))))
            (pw_or (pt_not (pt_val (pe_callB call_isErr (by rfl) T.isin (by decide +kernel) (pa_cons (pv 4) (pa_cons (pe_bltn (v := .ty "ValueError") (by rfl) M.ve (by decide +kernel) rfl) pa_nil)))))
            (pw_or1 (pt_cmpR op_ne (pe_callB (call_reprD M.sys hgd hr) (by rfl) M.rp (by decide +kernel) (pa_cons (pe_errv (pv 4)) pa_nil)) (pe_callB (call_reprD M.sys hgd hr) (by rfl) M.rp (by decide +kernel) (pa_cons (pv 1) pa_nil)) (nomark _)))))) (pss_one (ps_ret pe_bl)) pss_nil))))
      (pss_one (ps_ret (pe_cmpR op_eq (pe_callB (call_reprD M.sys hgd hr) (by rfl) M.rp (by decide +kernel) (pa_cons (pe_errv (pe_errK T.se (T.cl m_BadLine).1 hr T.sup (T.cl m_BadLine).2.2 rfl (pv 1))) pa_nil)) (pe_callB (call_reprD M.sys hgd hr) (by rfl) M.rp (by decide +kernel) (pa_cons (pv 1) pa_nil)) (nomark _)))))), ?_⟩
    refine ⟨_, rfl, p, n, rfl, hp, n0, n1, fun v H1 hp1 th B1 => ?_⟩
    refine ⟨_, rfl, v, rfl, fun H2 l as S2 x2 E2 => ?_⟩
    obtain ⟨d, hq1, g⟩ := th
    have hqq : Dq H2 v d := hq1.mono (off_sub.trans S2)
    have ln : d.shown.length ≤ sizeLine := by have := g.ln; rw [sizeLine_eq]; omega
    have dp : d.depth ≤ 100 := by have := g.dp; omega
    have la : as.length = 36 := by rw [Paired.length E2]; rfl
    refine ⟨_, rfl, l, _, rfl, SqL.of x2, for_it walk_enum (fun i σ H' => ∃ u1 u2 : Option V, σ = [some (.ref p), some v, some (.ref l), u1, u2, none] ∧ Same H2 H') ⟨none, none, rfl, Same.refl _⟩ (fun i σ H' _ ⟨_, _, _, S⟩ => SqL.of (S _ _ x2)) ?_ ?_⟩
    · rintro i z σ H3 H4 hi ⟨u1, u2, rfl, S3⟩ ⟨t, y1, y2, rfl, ht, rfl, hy1, hy2⟩
      rw [List.length_map, la] at hi
      cases hy1
      have S4 : Same H2 (upd H3 t (.tup [.int (i : Nat), y2])) := S3.trans (same_new ht)
      obtain ⟨a, ha, rfl⟩ : ∃ a, as[i]? = some a ∧ V.ref a = y2 := by
        have hy3 : (as.map V.ref)[i]? = some y2 := hy2
        rw [List.getElem?_map] at hy3
        cases z : as[i]? with
        | none => rw [z] at hy3; cases hy3
        | some a => rw [z] at hy3; exact ⟨a, rfl, Option.some.inj hy3⟩
      obtain ⟨C, hC, Ea⟩ := Paired.get E2 ha
      have hnl : i < names.length := hi
      have hx : names.getD i "" ∈ names := by rw [List.getD_eq_getElem?_getD, List.getElem?_eq_getElem hnl]; exact List.getElem_mem _
      have eC : C = He.ga K (names.getD i "") := by
        rw [List.getElem?_map, List.getElem?_eq_getElem hnl] at hC
        rw [List.getD_eq_getElem?_getD, List.getElem?_eq_getElem hnl]
        exact (Option.some.inj hC).symm
      subst eC
      refine ⟨t, _, rfl, SqT.of upd_same, rfl, ?_⟩
      generalize upd H3 t (.tup [.int (i : Nat), .ref a]) = H5 at S4 ⊢
      refine ⟨_, _, rfl, _, _, rfl, rfl, ?_⟩
      refine ⟨_, rfl, a, v, names.getD i "", rfl, hx, ErrAt.mono Ea S4, fun H6 l6 S6 x6 => ?_⟩
      have S26 := S4.trans S6
      refine ⟨_, rfl, l, _, rfl, .inl (SqL.of (S26 _ _ x2)), ?_⟩
      rw [List.length_map, la]
      refine ⟨36, rfl, by decide, by decide, fun Dl eD => lc_range (lo := 0) (n := 36) (fun j H' => Same H6 H' ∧ H' Dl = some (.lst ((List.range j).map fun m => .bl (decide (V.int ((i : Nat) : Int) = V.int (0 + ((m : Nat) : Int))))))) ⟨same_new eD, upd_same⟩ ?_ ?_⟩
      · rintro j H7 hj ⟨S7, xD⟩
        refine ⟨rfl, _, rfl, _, rfl, rfl, _, xD, ?_, ?_, ?_⟩
        · rw [List.length_map, List.length_range, sizeLine_eq]; omega
        · intro b o e
          rw [upd_ne (ne_of_none e eD)]
          exact S7 _ _ e
        · rw [upd_same, List.range_succ, List.map_append]
          rfl
      · rintro H7 ⟨S7, xD⟩
        have S27 := S26.trans S7
        have tb := tab ⟨i, hi⟩
        have eB : ((List.range 36).map fun m => V.bl (decide (V.int ((i : Nat) : Int) = V.int (0 + ((m : Nat) : Int))))) = ((List.range 36).map fun j => decide (i = j)).map V.bl := by
          rw [List.map_map]
          exact List.map_congr_left fun m _ => congrArg V.bl (dec_int i m)
        rw [eB] at xD
        have x7 : H7 l6 = some (.lst (((List.range 36).map fun j => decide (i = j)).map V.bl)) := by
          rw [← tb, List.map_map]
          exact S7 _ _ x6
        refine ⟨_, _, .lst (SqL.of x7) (dp_bools _), .lst (SqL.of xD) (dp_bools _), shaped_bools _, shaped_bools _, _, rfl, ?_⟩
        rw [SeqAt.eqv_refl _ (SeqAt.canLay_of_shaped (shaped_bools _))]
        refine iteF ?_
        have Ea7 := ErrAt.mono Ea S27
        have hq7 : Dq H7 v d := hqq.mono S27
        refine ⟨_, rfl, a, _, v, _, .ref D, _, rfl, Ea7, (T.cl hx).2.1, fun u z => z, M.kitS hx, _, rfl, iteF ?_⟩
        refine ⟨_, rfl, a, _, v, _, .type "ValueError", _, rfl, Ea7, (T.cl hx).2.1, fun u z => z, M.kitV hx, _, rfl, iteF ?_⟩
        refine ⟨_, rfl, a, _, v, rfl, Ea7, (T.cl hx).2.1, v, d, rfl, hq7, g.sh, dp, ln, _, rfl, v, d, rfl, hq7, g.sh, dp, ln, rfl, _, rfl, iteNS rfl ?_⟩
        exact ⟨_, _, rfl, S27⟩
    · rintro σ H3 ⟨u1, u2, rfl, S3⟩
      refine ⟨_, rfl, fun a ad na nad ne => ?_⟩
      have S4 : Same H2 (upd (upd H3 ad (.xd [(("value" : Str), v)])) a (exo a (He.ga K "BadLine") (some ad))) := fun b o e => by
        rw [upd_ne (ne_of_none (S3 _ _ e) na), upd_ne (ne_of_none (S3 _ _ e) nad)]
        exact S3 _ _ e
      have Ea : ErrAt (upd (upd H3 ad (.xd [(("value" : Str), v)])) a (exo a (He.ga K "BadLine") (some ad))) a (He.ga K "BadLine") v := ⟨ad, upd_same, by rw [upd_ne ne]; exact upd_same⟩
      generalize upd (upd H3 ad (.xd [(("value" : Str), v)])) a (exo a (He.ga K "BadLine") (some ad)) = H4 at S4 Ea ⊢
      have hq4 : Dq H4 v d := hqq.mono S4
      refine ⟨a, _, v, rfl, Ea, (T.cl m_BadLine).2.1, v, d, rfl, hq4, g.sh, dp, ln, _, rfl, v, d, rfl, hq4, g.sh, dp, ln, rfl, ?_⟩
      have ed : decide (V.str d.shown = V.str d.shown) = true := decide_eq_true rfl
      show Q (.bl (decide (V.str d.shown = V.str d.shown))) H4
      rw [ed]
      exact k H4 (hp1.same (S2.trans S4)) (B1.trans (But.of (S2.trans S4)))
/-! ### the law -/
def spLaw (K : PySem.W.Frag) : Sp := fun vs H Q _ => ∃ (a : Addr) (ns : List Int), vs = [.ref a] ∧ SqL K H a (ns.map V.int) ∧ ns.length ≤ 63 ∧ ∀ H', Q (.bl true) H'
theorem scL : FnScope ["_law_script", "_law_k", "_law_pot", "_law_turn"] ["_law_script"] (defScope sLaw) := ⟨rfl, rfl, rfl, by decide +kernel, rfl, by decide +kernel, by decide +kernel⟩
theorem ok_law {f fP fR : Addr} {fd fdP fdR : FuncData} (F : FnP K "law" sLaw f fd) (T0 : Txt K mg) (M : Mre K mg D)
    (FP : FnP K "_law_pot_of" sPot fP fdP) (GP : FnOk P w K mg bse CX0 1 fP fdP ["_law_script", "_law_k"] (spPot (K := K))) (gP : mg "_law_pot_of" = some (.ref fP))
    (FR : FnP K "_law_right" sRight fR fdR) (GR : FnG P w K mg bse CX0 4 fR fdR ["_law_pot"] spRight) (gR : mg "_law_right" = some (.ref fR)) : FnG P w K mg bse CX0 5 f fd ["_law_script"] (spLaw K) := by
  have bP : Binds K fdP ["_law_script", "_law_k"] [] := FP.bindsN fun _ _ _ _ _ _ us hl => match us, hl with | [_, _], _ => rfl
  have bR : Binds K fdR ["_law_pot"] [] := FR.bindsN fun _ _ _ _ _ _ us hl => match us, hl with | [_], _ => rfl
  refine F.okG scL (fun vs H Q E h => ?_) (fun cdv A outer s H vs Q E hgd hr h => ?_)
  · obtain ⟨a, ns, rfl, _⟩ := h
    rfl
  · obtain ⟨a, ns, rfl, hS, hlen, k⟩ := h
    have hr1 : Room 1 _ := hr.mono (by decide)
    refine ⟨_, pss_cons (ps_for PassesOwn.never rfl (pi_range1 rfl T0.range (pa_cons (pe_callB (call_max2 rfl) (by rfl) M.mx (by decide +kernel) (pa_cons pe_int (pa_cons (pe_callB (call_min2 rfl) (by rfl) M.mn (by decide +kernel) (pa_cons pe_int (pa_cons (pe_callB call_len_seq (by rfl) T0.len PySem.boot_len (pa_cons (pv 0) pa_nil)) pa_nil))) pa_nil))) pa_nil)) (pg_name (i := 1) scL.nd rfl (Or.inl rfl))
        (pss_cons (ps_set (i := 2) scL.nd rfl (Or.inr rfl) (pe_call GP hr1 rfl gP FP.kp bP .nil pass0 (pa_cons (pv 0) (pa_cons (pv 1) pa_nil))))
        (pss_one (ps_if (pt_not (pt_val (pe_callB (cr_all rfl) (by rfl) M.al (by decide +kernel) (pa_cons (pe_lc (own := [("_law_turn", 3)]) (g := gName 3) (tt := tYes) rfl scL.nd (pi_range1 rfl T0.range (pa_cons pe_int pa_nil)) (blkOk_by (N := ["_law_script", "_law_k", "_law_pot", "_law_turn"]) (sc := defScope sLaw) (by decide +kernel))
              (fun _ _ _ _ _ => pg_name (i := 3) scL.nd rfl (Or.inl rfl)) (fun _ _ _ _ _ => pts_nil) (fun _ _ _ _ _ => pe_callG GR hgd hr rfl gR FR.kp bR .nil pass0 (pa_cons (pv 2) pa_nil))) pa_nil)))) (pss_one (ps_ret pe_bl)) pss_nil))))
      (pss_one (ps_ret pe_bl)), ?_⟩
    refine ⟨_, rfl, a, _, rfl, .inl hS, 3, _, rfl, 1, _, rfl, ?_⟩
    obtain ⟨m, hm, m0, m3⟩ : ∃ m : Int, (if (if ((ns.map V.int).length : Int) < 3 then ((ns.map V.int).length : Int) else 3) > 1 then (if ((ns.map V.int).length : Int) < 3 then ((ns.map V.int).length : Int) else 3) else 1) = m ∧ 0 ≤ m ∧ m ≤ 3 := ⟨_, rfl, by split <;> omega, by split <;> split <;> omega⟩
    refine ⟨m, congrArg (fun z => [V.int z]) hm, by omega, by omega, for_range (lo := 0) (n := m.toNat) (fun i σ H' => ∃ u1 u2 : Option V, σ = [some (.ref a), u1, u2, none] ∧ Same H H') ⟨none, none, rfl, Same.refl _⟩ ?_ ?_⟩
    · rintro i σ H1 hi ⟨u1, u2, rfl, S1⟩
      refine ⟨_, rfl, _, rfl, a, ns, 0 + (i : Int), rfl, S1.seq hS, hlen, by omega, by omega, fun p H2 np hp S2 => ?_⟩
      have B0 : ∀ b o, H b = some o → b ≠ p := fun b o e => ne_of_none (S1 _ _ e) np
      refine ⟨3, rfl, by decide, by decide, fun Dl eD => lc_range (lo := 0) (n := 3) (fun j H' => But p H2 H' ∧ Pot H' p (40 * (j : Int)) ∧ H' Dl = some (.lst (List.replicate j (.bl true)))) ⟨But.new eD, hp.but eD, upd_same⟩ ?_ ?_⟩
      · rintro j H3 hj ⟨B3, hp3, x3⟩
        refine ⟨rfl, _, rfl, p, 40 * (j : Int), rfl, hp3, by omega, by omega, fun H4 hp4 B4 => ⟨_, B4 _ _ (hp.ne eD) x3, ?_, ?_, ?_, ?_⟩⟩
        · rw [List.length_replicate, sizeLine_eq]; omega
        · intro b o nb e
          rw [upd_ne (ne_of_none e eD)]
          exact B4 _ _ nb (B3 _ _ nb e)
        · obtain ⟨x, y, z, h1, h2, h3⟩ := hp4
          refine ⟨x, y, z, ?_, h2, by omega⟩
          rw [upd_ne (hp.ne eD).symm]; exact h1
        · rw [upd_same, List.replicate_succ']
      · rintro H3 ⟨B3, hp3, x3⟩
        refine ⟨Dl, [true, true, true], rfl, SqL.of x3, true, rfl, iteF ?_⟩
        exact ⟨_, _, rfl, fun b o e => B3 _ _ (B0 b o e) (S2 _ _ (S1 _ _ e))⟩
    · rintro σ H1 ⟨u1, u2, rfl, S1⟩
      exact k H1
end
end K59
set_option Elab.async false
set_option linter.all false
set_option maxRecDepth 100000
set_option maxHeartbeats 0
namespace K59
open PySem PySem.Spec PyProof.Rows L2
open PySem.W (Frag findIn subIn typeIn keepIn mroIn clsIn nsIn hasDictIn specialIn takesIn kitOne ks_superIn codeIn)
/-! ### the head: what is looked at behind the top -/
def exB (K : Frag) (C : Addr) : Bool := match K.lookup C with
  | some ⟨.type t, _, .cls cd, sl⟩ => (match cd.mro, sl.toList with
    | .ref C' :: bm, [_, _, _, _, some (.builtin n), _] => decide (t = "type") && (decide (C' = C) && (decide (n = "ValueError.__new__") && (!cd.hasDel && (cd.hasDict && HandSPX.refsVE bm))))
    | _, _ => false)
  | _ => false
theorem exB_ok {K : Frag} {C : Addr} (h : exB K C = true) : ∃ nm q N bs bm sn sub ab col dd k0 k1 k2 k3 k5, K.lookup C = some (excClassObj nm q C N bs bm true sn sub ab col dd k0 k1 k2 k3 k5 "ValueError.__new__") ∧ HandSPX.refsVE bm = true := by
  unfold exB at h
  split at h
  · rename_i t dd cd sl ho
    split at h
    · rename_i C' bm k0 k1 k2 k3 n k5 hm hs
      obtain ⟨h1, h⟩ := He.ba h
      obtain ⟨h2, h⟩ := He.ba h
      obtain ⟨h3, h⟩ := He.ba h
      obtain ⟨h4, h⟩ := He.ba h
      obtain ⟨h5, h6⟩ := He.ba h
      have e1 := of_decide_eq_true h1
      have e2 := of_decide_eq_true h2
      have e3 := of_decide_eq_true h3
      subst e1 e2 e3
      obtain ⟨nm, bs, mro, ns, qn, hd, sn, sub, ab, col, del⟩ := cd
      obtain ⟨sl⟩ := sl
      have hs' : sl = [k0, k1, k2, k3, some (.builtin "ValueError.__new__"), k5] := hs
      have h4' : del = false := by simpa using h4
      have h5' : hd = true := h5
      have hm' : mro = .ref C' :: bm := hm
      subst hs' h4' h5' hm'
      exact ⟨nm, qn, ns, bs, bm, sn, sub, ab, col, dd, k0, k1, k2, k3, k5, ho, h6⟩
    · cases h
  · cases h
abbrev dK (K : Frag) : Addr := He.ga K "StepError"
abbrev fK (K : Frag) : Addr := He.ma K (dK K) "__init__"
def iFd (K : Frag) : Option FuncData := match K.lookup (fK K) with
  | some ⟨_, _, .func fd, _⟩ => some fd
  | _ => none
def ccK (K : Frag) : Addr := match iFd K with
  | some fd => (match fd.closure with
    | [(_, c)] => c
    | _ => 0)
  | none => 0
def cdK (K : Frag) : Addr := match iFd K with
  | some fd => (match fd.code with
    | .ref c => c
    | _ => 0)
  | none => 0
abbrev IV : Type := Option (Str × Str × Arguments × FuncBody × Scope × Addr × List Str × Value × Addr)
def initObs (K : Frag) : IV := (iFd K).map fun fd => (fd.name, fd.qualname, fd.params, fd.body, fd.scope, fd.globals, fd.closure.map (·.1), fd.defaults, fd.builtins)
abbrev sInit : Stmt := inClass (top 1) 0
def initVal : IV := some ("__init__", "StepError.__init__", defArgs sInit, .stmts (defBody sInit), defScope sInit, mainGlobals, ["__class__"], .none, builtinsNs)
/-- of one error class -/
def clB (K : Frag) (x : Str) : Bool :=
  let C := He.ga K x
  exB K C && (decide (nsIn K mainGlobals x = some (some (.ref C))) && (decide (findIn K (.ref C) "__setattr__" = some (some (.builtin "object.__setattr__"))) && (decide (subIn K (.ref C) (.type "BaseException") = some true) && (decide (typeIn K (.ref C) = some (.type "type")) && (keepIn K (.ref C) &&
  (decide (findIn K (.ref C) "__init__" = some (some (.ref (fK K)))) && (decide (findIn K (.ref C) "value" = some none) && (decide (mroIn K C (.ref (dK K)) = some true) && (decide (ks_superIn K C (dK K) "__init__" = some (some (.builtin "ValueError.__init__"))) && (decide (subIn K (.ref C) (.type "ValueError") = some true) &&
  (decide (findIn K (.ref C) "__getattribute__" = some (some (.builtin "BaseException.__getattribute__"))) && (decide (findIn K (.ref C) "__getattr__" = some none) && (hasDictIn K C && (decide (findIn K (.ref C) "__class__" = some (some (.builtin "object.__class__"))) && (decide (mroIn K C (.type "object") = some true) &&
  (decide (kitOne K (.ref C) (.ref (dK K)) = some true) && (decide (kitOne K (.ref C) (.type "ValueError") = some true) && names.all fun y => decide (kitOne K (.ref C) (.ref (He.ga K y)) = some (decide (x = y))))))))))))))))))))
def codeB (K : Frag) (file : Str) : Bool := match K.lookup (cdK K) with
  | some ⟨_, _, .fields vs, _⟩ => (match vs.toList[2]? with
    | some (Value.str f _) => file == f
    | _ => false)
  | _ => false
def cellB (K : Frag) : Bool := match K.lookup (ccK K) with
  | some ⟨_, _, .cell (some v), _⟩ => decide (v = .ref (dK K))
  | _ => false
def iB2 (K : Frag) : Bool := match iFd K with
  | some fd => decide (fd.code = .ref (cdK K))
  | none => false
def chk (file : Str) (K : Frag) : Bool := (names.all fun x => clB K x) && (decide (typeIn K (.ref (fK K)) = some (.type "function")) && (codeIn K (.ref (cdK K)) "StepError.__init__" && (codeB K file && (cellB K && (iB2 K && ((clsIn K (dK K)).isSome && (decide (nsIn K cStatics "thirdparty.any" = some none) &&
  ((K.lookup sysModules).isSome && (decide (specialIn K (.builtin "object.__class__") "__get__" = some (some (.builtin "getset_descriptor.__get__"))) && decide (takesIn K (.builtin "object.__class__") = some true))))))))))
/-! ### the Hook -/
def df (x : Str) (st : Stmt) : He.DefD := ⟨(x, none), x, x, defArgs st, defBody st, defScope st, [], []⟩
def fn : List He.DefD := [df "_law_take" sTake, df "_law_of" sOf, df "_law_pot_of" sPot, df "_law_odd" sOdd, df "_law_made" sMade, df "_law_sorts" sSorts, df "_law_right" sRight, df "law" sLaw]
def fa : List He.Fa := [.glo "_law_take", .glo "_law_of", .glo "_law_pot_of", .glo "_law_odd", .glo "_law_made", .glo "_law_sorts", .glo "_law_right", .glo "law", .glo "StepError",
  .free "int", .free "len", .free "abs", .free "range", .free "super", .free "isinstance", .free "ValueError", .free "repr", .free "enumerate", .free "max", .free "min", .free "all"]
abbrev Al : Type := He.AlD × Bool × IV
def fragOf (g : Addr → Option Obj) : Frag := He.frG g (sysModules :: cStatics :: He.asD g 4)
def obsX (file : Str) (g : Addr → Option Obj) : Al := let K := fragOf g; (He.obsD fa fn K, chk file K, initObs K)
def hkX (file : Str) : PySem.W.Hook where
  α := Al
  obs := fun s => obsX file s.heap.get?
  val := fun _ => (He.valD fn, true, initVal)
  says := fun _ h => ∃ K : Frag, K.In h ∧ He.SaysD fa fn K ∧ chk file K = true ∧ initObs K = initVal
  of := fun _ s e => ⟨fragOf s.heap.get?, He.frG_in, congrArg (fun z : Al => z.1) e, congrArg (fun z : Al => z.2.1) e, congrArg (fun z : Al => z.2.2) e⟩
  keeps := fun _ _ _ ⟨K, hK, c⟩ k => ⟨K, PySem.W.Frag.In.keeps hK k, c⟩
abbrev R : PySem.W.OpenRow := PySem.W.OpenLaw.row PySem.Challenge.rw_stepsunread_k59_errors_with_any_value
abbrev hk : PySem.W.Hook := hkX R.prog.main.file
def ob (s : PySem.W.SharedT) : Al := obsX R.prog.main.file (HandSHeadRun.getT s)
theorem ob_eq (s : PySem.W.SharedT) : ob s = hk.obs s.abs := by
  have e : HandSHeadRun.getT s = s.abs.heap.get? := funext (HandSHeadRun.getT_eq s)
  unfold ob
  rw [e]; rfl
def loose : List Str := names ++ (["StepError", "_law_take", "_law_of", "_law_pot_of", "_law_odd", "_law_made", "_law_sorts", "_law_right"] : List Str)
end K59
set_option Elab.async false
set_option linter.all false
set_option maxRecDepth 100000
set_option maxHeartbeats 0
namespace K59
theorem run (w : PySem.World) : HandSHeadRun.RunEq R (PySem.W.view R.prog [46]) hk ob 9000 loose w := by
  intro os
  kernel_rfl
end K59
set_option Elab.async false
set_option linter.all false
set_option maxRecDepth 100000
set_option maxHeartbeats 0
namespace K59
open PySem PySem.Spec PyProof.Rows L2
open PySem.W (Frag findIn subIn typeIn keepIn mroIn clsIn nsIn hasDictIn specialIn takesIn kitOne ks_superIn codeIn)
theorem init_fd {K : Frag} (e : initObs K = initVal) (h2 : iB2 K = true) : ∃ oc od osl kV doc pm an ct, K.lookup (fK K) = some ⟨oc, od, .func (PySem.W.ksFn "__init__" "StepError.__init__" (defArgs sInit) (defBody sInit) (defScope sInit) .none kV doc pm an (.ref (cdK K)) ct (ccK K)), osl⟩ := by
  obtain ⟨fd, hfd⟩ : ∃ fd, iFd K = some fd := by
    unfold initObs at e
    cases z : iFd K with
    | none => rw [z] at e; cases e
    | some fd => exact ⟨fd, rfl⟩
  have e1 : initObs K = some (fd.name, fd.qualname, fd.params, fd.body, fd.scope, fd.globals, fd.closure.map (·.1), fd.defaults, fd.builtins) := by unfold initObs; rw [hfd]; rfl
  have hc : ccK K = (match fd.closure with | [(_, c)] => c | _ => 0) := by unfold ccK; rw [hfd] <;> rfl
  have hcd : fd.code = .ref (cdK K) := by
    unfold iB2 at h2
    rw [hfd] at h2
    exact of_decide_eq_true h2
  have lk : ∃ oc od osl, K.lookup (fK K) = some ⟨oc, od, .func fd, osl⟩ := by
    unfold iFd at hfd
    split at hfd
    · rename_i ho
      cases hfd
      exact ⟨_, _, _, ho⟩
    · cases hfd
  obtain ⟨oc, od, osl, lk⟩ := lk
  obtain ⟨n1, n2, n3, n4, n5, n6, n7, n8, n9, n10, n11, n12, n13, n14, n15⟩ := fd
  rw [e1] at e
  have e2 : (some (n1, n2, n3, n4, n5, n6, n7.map (·.1), n8, n15) : IV) = initVal := e
  unfold initVal at e2
  simp only [Option.some.injEq, Prod.mk.injEq] at e2
  obtain ⟨h1, h2', h3, h4, h5, h6, h7, h8, h9⟩ := e2
  have hcl : n7 = [(("__class__" : Str), ccK K)] := by
    match n7, h7, hc with
    | [(a, c)], h7, hc =>
      have ha : a = "__class__" := by simpa using h7
      have hc' : ccK K = c := hc
      rw [ha, hc']
  have hcd' : n13 = .ref (cdK K) := hcd
  subst h1 h2' h3 h4 h5 h6 h8 h9
  rw [hcl, hcd'] at lk
  exact ⟨oc, od, osl, n9, n10, n11, n12, n14, lk⟩
theorem chk_ok {file : Str} {K : Frag} (h : chk file K = true) : (∀ x ∈ names, clB K x = true) ∧ typeIn K (.ref (fK K)) = some (.type "function") ∧ codeIn K (.ref (cdK K)) "StepError.__init__" = true ∧ codeB K file = true ∧ cellB K = true ∧ iB2 K = true ∧ (clsIn K (dK K)).isSome = true ∧ nsIn K cStatics "thirdparty.any" = some none ∧
    (K.lookup sysModules).isSome = true ∧ specialIn K (.builtin "object.__class__") "__get__" = some (some (.builtin "getset_descriptor.__get__")) ∧ takesIn K (.builtin "object.__class__") = some true := by
  obtain ⟨h1, h⟩ := He.ba h
  obtain ⟨h2, h⟩ := He.ba h
  obtain ⟨h3, h⟩ := He.ba h
  obtain ⟨h4, h⟩ := He.ba h
  obtain ⟨h5, h⟩ := He.ba h
  obtain ⟨h6, h⟩ := He.ba h
  obtain ⟨h7, h⟩ := He.ba h
  obtain ⟨h8, h⟩ := He.ba h
  obtain ⟨h9, h⟩ := He.ba h
  obtain ⟨h10, h11⟩ := He.ba h
  exact ⟨List.all_eq_true.mp h1, of_decide_eq_true h2, h3, h4, h5, h6, h7, of_decide_eq_true h8, h9, of_decide_eq_true h10, of_decide_eq_true h11⟩
theorem cl_ok {K : Frag} {x : Str} (tI : typeIn K (.ref (fK K)) = some (.type "function")) (cg : specialIn K (.builtin "object.__class__") "__get__" = some (some (.builtin "getset_descriptor.__get__"))) (ct : takesIn K (.builtin "object.__class__") = some true) (h : clB K x = true) :
    SE.SeCls K (dK K) (fK K) (He.ga K x) ∧ ErrIs K (He.ga K x) ∧ nsIn K mainGlobals x = some (some (.ref (He.ga K x))) ∧ kitOne K (.ref (He.ga K x)) (.ref (dK K)) = some true ∧ kitOne K (.ref (He.ga K x)) (.type "ValueError") = some true ∧ ∀ y ∈ names, kitOne K (.ref (He.ga K x)) (.ref (He.ga K y)) = some (decide (x = y)) := by
  obtain ⟨h1, h⟩ := He.ba h
  obtain ⟨h2, h⟩ := He.ba h
  obtain ⟨h3, h⟩ := He.ba h
  obtain ⟨h4, h⟩ := He.ba h
  obtain ⟨h5, h⟩ := He.ba h
  obtain ⟨h6, h⟩ := He.ba h
  obtain ⟨h7, h⟩ := He.ba h
  obtain ⟨h8, h⟩ := He.ba h
  obtain ⟨h9, h⟩ := He.ba h
  obtain ⟨h10, h⟩ := He.ba h
  obtain ⟨h11, h⟩ := He.ba h
  obtain ⟨h12, h⟩ := He.ba h
  obtain ⟨h13, h⟩ := He.ba h
  obtain ⟨h14, h⟩ := He.ba h
  obtain ⟨h15, h⟩ := He.ba h
  obtain ⟨h16, h⟩ := He.ba h
  obtain ⟨h17, h⟩ := He.ba h
  obtain ⟨h18, h19⟩ := He.ba h
  have e4 := of_decide_eq_true h4
  have e8 := of_decide_eq_true h8
  refine ⟨⟨⟨exB_ok h1, of_decide_eq_true h3, e4, of_decide_eq_true h5, h6⟩, of_decide_eq_true h7, tI, e8, of_decide_eq_true h9, of_decide_eq_true h10, of_decide_eq_true h11⟩, ⟨of_decide_eq_true h12, of_decide_eq_true h13, e4, h14, of_decide_eq_true h15, cg, ct, of_decide_eq_true h16, e8⟩, of_decide_eq_true h2, of_decide_eq_true h17, of_decide_eq_true h18, fun y hy => of_decide_eq_true (List.all_eq_true.mp h19 y hy)⟩
theorem facts {w : World} {K : Frag} {h : Heap} {mg : Str → Option Value} {f : Addr} (X : K.In h) (G : h.Ns mainGlobals mg) (hfa : mg ("law" : Str) = some (.ref f)) (c : He.SaysD fa fn K) (c2 : chk R.prog.main.file K = true) (c3 : initObs K = initVal) :
    ∃ fd : FuncData, (∀ (s : Shared) (v : Value), BindsTo s fd ⟨[v], []⟩ [("_law_script", v)]) ∧ ∀ bse : Heap, K.In bse → bse.Ns mainGlobals mg → FnG R.prog w K mg bse CX0 5 f fd ["_law_script"] (spLaw K) := by
  obtain ⟨q1, q2, q3, q4, q5, q6, q7, q8, q9, q10, q11⟩ := chk_ok c2
  obtain ⟨fd0, F0⟩ := c.def_ 0 (d := df "_law_take" sTake) rfl
  obtain ⟨fd1, F1⟩ := c.def_ 1 (d := df "_law_of" sOf) rfl
  obtain ⟨fd2, F2⟩ := c.def_ 2 (d := df "_law_pot_of" sPot) rfl
  obtain ⟨fd3, F3⟩ := c.def_ 3 (d := df "_law_odd" sOdd) rfl
  obtain ⟨fd4, F4⟩ := c.def_ 4 (d := df "_law_made" sMade) rfl
  obtain ⟨fd5, F5⟩ := c.def_ 5 (d := df "_law_sorts" sSorts) rfl
  obtain ⟨fd6, F6⟩ := c.def_ 6 (d := df "_law_right" sRight) rfl
  obtain ⟨fd7, F7⟩ := c.def_ 7 (d := df "law" sLaw) rfl
  have e := hfa.symm.trans (He.glo_ok X G (c.fact 7 (f := .glo "law") rfl))
  cases e
  have T0 : Txt K mg := ⟨He.free_ok X G (c.fact 9 (f := .free "int") rfl), He.free_ok X G (c.fact 10 (f := .free "len") rfl), He.free_ok X G (c.fact 11 (f := .free "abs") rfl), He.free_ok X G (c.fact 12 (f := .free "range") rfl)⟩
  have se : SE.SeTxt R.prog K (dK K) (fK K) (ccK K) (cdK K) := by
    obtain ⟨oc, od, osl, kV, doc, pm, an, ct, lk⟩ := init_fd c3 q6
    refine ⟨⟨oc, od, kV, doc, pm, an, ct, osl, ⟨4, 17, 4, 21⟩, ⟨4, 23, 4, 28⟩, ⟨5, 8, 5, 13⟩, ⟨5, 8, 5, 15⟩, ⟨5, 8, 5, 24⟩, ⟨5, 25, 5, 42⟩, ⟨5, 8, 5, 43⟩, ⟨5, 8, 5, 43⟩, ⟨6, 8, 6, 12⟩, ⟨6, 8, 6, 18⟩, ⟨6, 21, 6, 26⟩, ⟨6, 8, 6, 26⟩, 0, lk, rfl⟩, q3, ?_, ?_, Option.isSome_iff_exists.mp q7, q8, by decide +kernel⟩
    · unfold codeB at q4
      split at q4
      · rename_i ho
        split at q4
        · rename_i hv
          exact ⟨_, _, _, _, _, _, ho, by rw [← Array.getElem?_toList]; exact hv, q4⟩
        · cases q4
      · cases q4
    · unfold cellB at q5
      split at q5
      · rename_i ho
        rw [of_decide_eq_true q5] at ho
        exact ⟨_, _, _, ho⟩
      · cases q5
  have cls := fun {x : Str} (hx : x ∈ names) => cl_ok q2 q10 q11 (q1 x hx)
  have T : Ers R.prog K mg (dK K) (fK K) (ccK K) (cdK K) := ⟨se, fun hx => ⟨(cls hx).1, (cls hx).2.1, PySem.W.mg_of X G (cls hx).2.2.1⟩, fun hx hy => (cls hx).2.2.2.2.2 _ hy, He.free_ok X G (c.fact 13 (f := .free "super") rfl), He.free_ok X G (c.fact 14 (f := .free "isinstance") rfl)⟩
  have M : Mre K mg (dK K) := ⟨q9, fun hx => (cls hx).2.2.2.1, fun hx => (cls hx).2.2.2.2.1, He.glo_ok X G (c.fact 8 (f := .glo "StepError") rfl), He.free_ok X G (c.fact 15 (f := .free "ValueError") rfl), He.free_ok X G (c.fact 16 (f := .free "repr") rfl), He.free_ok X G (c.fact 17 (f := .free "enumerate") rfl), He.free_ok X G (c.fact 18 (f := .free "max") rfl), He.free_ok X G (c.fact 19 (f := .free "min") rfl), He.free_ok X G (c.fact 20 (f := .free "all") rfl)⟩
  have g0 := He.glo_ok X G (c.fact 0 (f := .glo "_law_take") rfl)
  have g1 := He.glo_ok X G (c.fact 1 (f := .glo "_law_of") rfl)
  have g2 := He.glo_ok X G (c.fact 2 (f := .glo "_law_pot_of") rfl)
  have g3 := He.glo_ok X G (c.fact 3 (f := .glo "_law_odd") rfl)
  have g4 := He.glo_ok X G (c.fact 4 (f := .glo "_law_made") rfl)
  have g5 := He.glo_ok X G (c.fact 5 (f := .glo "_law_sorts") rfl)
  have g6 := He.glo_ok X G (c.fact 6 (f := .glo "_law_right") rfl)
  have b := FunD.bindsA (ps := ["_law_script"]) F7 fun _ _ _ _ _ _ us hl => match us, hl with | [_], _ => rfl
  refine ⟨fd7, fun s v => b s [v] rfl, fun bse _ _ => ?_⟩
  have GO := ok_of (P := R.prog) (w := w) (bse := bse) F1 F0 T0 g0
  have GD := ok_odd F3 F1 GO T0 g1
  have GM := ok_made (P := R.prog) (w := w) (bse := bse) F4 T
  have GS := ok_sorts (P := R.prog) (w := w) (bse := bse) F5 T
  have GR := ok_right F6 T0 T M F3 GD g3 F4 GM g4 F5 GS g5
  have GP := ok_pot (P := R.prog) (w := w) (bse := bse) F2 T0
  exact ok_law F7 T0 M F2 GP g2 F6 GR g6
end K59
open PySem PySem.W PySem.Calls PyProof.Rows
theorem PySem.Challenge.cw_stepsunread_k59_errors_with_any_value_holds : PySem.Challenge.rw_stepsunread_k59_errors_with_any_value.Holds := by
  w_on; o_law
  refine HandSHeadRun.head_any (r := K59.R) (q := view K59.R.prog [46]) (H := K59.hk) (ob := K59.ob) (M := 9000) (loose := K59.loose) (d := HandSHeadRun.topDef K59.R.prog 46) (kwd := []) K59.ob_eq
    (by kernel_rfl) (fun s => by kernel_rfl) K59.run (by kernel_rfl) (by kernel_rfl) (by kernel_rfl) (by rfl) (by first | assumption | decide +kernel) (by decide +kernel) ⟨rfl, rfl, rfl, rfl, rfl, by decide +kernel⟩ ?hw ?hc
  case hw => w_witness2
  case hc =>
    refine L2.walk_ofG (l := PySem.Challenge.rw_stepsunread_k59_errors_with_any_value) (n := 63) (k := 5) (x := "_law_script") (CX := L2.CX0) rfl (by decide) (by kernel_rfl) ⟨rfl, by decide, by decide⟩ ?F (fun _ _ _ _ z => z)
    intro w mg fa h Y G hmg0
    obtain ⟨K, KX, c, c2, c3⟩ := Y
    have hmg : mg ("law" : PySem.Str) = some (.ref fa) := by
      have e : (HandSHeadRun.topDef K59.R.prog 46).name = ("law" : PySem.Str) := by kernel_rfl
      rw [← e]; exact hmg0
    obtain ⟨fd, hb, hF⟩ := K59.facts (w := w) KX G hmg c c2 c3
    exact ⟨K, fd, K59.spLaw K, KX, hb, fun H a ns hl _ hS => ⟨a, ns, rfl, hS, hl, fun _ => rfl⟩, hF⟩
