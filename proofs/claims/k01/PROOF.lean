import PyProof.Rows.All
import Wide.All
import OpenK.AllK
import Wide.FinOn
import KE.KSuper
import KE.KExcSuper
import HandS.ForMost
import HandS.Exc
import HandS.ExcInit
import HandS.ExcIs
import HandS.ExcField
import HandS.ExcSuper
import HandS.Defaults
import KE.DataCmp
import KE.DataEq
import HandS.WordsExc
import HandS.WideBits
import HandS.IsInst
import HandS.TupLen
import HandS.Small
import HandS.Style
import HandS.Base
import HandS.Call
import HandS.Ends
import HandS.Words
import KE.KIsAll
import HandS.ExcValue
import KE.KTryMore
import PyProof.ReprRoads
import PyProof.CallFns
import HandS.List
import KE.IntBitsLaws
import KE.KxText
import PyProof.StrLawsRepr
import PyProof.StrBlockL
import HandS.HeadEnd
import KE.KStateDown
import Lean
import HandS.More
import HandS.Head0
import HandS.Head1
import HandS.Head2
import HandS.HeadHook1
import HandS.HeadHook2
import PySem.Challenge.RW_logcores_k01_errors_made
set_option Elab.async false
set_option linter.all false
set_option maxRecDepth 100000
set_option maxHeartbeats 0
/-! Own exceptions whose __init__(self, value=None) says super().__init__() and keeps the value: what a call of __init__ leaves. -/
namespace PySem
namespace VX
open PySem.W PySem.Calls PyProof.Rows PySem.HandSPX

def iA (p1 p2 p3 : Pos) : Arguments := { posonlyargs := [], args := [{ arg := "self", annotation := none, pos := p1 }, { arg := "value", annotation := none, pos := p2 }], vararg := none, kwonlyargs := [], kw_defaults := [], kwarg := none, defaults := [Expr.Constant Const.none 0 p3] }
def iB (q1 q2 q3 q4 q5 q6 q7 q8 q9 : Pos) : List Stmt :=
  [.Expr (.Call (.Attribute (.Call (.Name "super" q1) [] [] q2) "__init__" q3) [] [] q4) q5, .Assign [.Attribute (.Name "self" q6) "value" q7] (.Name "value" q8) q9]
def iS : Scope := { kind := .function, names := [(PySem.Str.ofString "self", .local), (PySem.Str.ofString "value", .local), (PySem.Str.ofString "__class__", .free), (PySem.Str.ofString "super", .globalImplicit)], isGenerator := false, isCoroutine := false, more := [] }

/-- the function object of such an __init__ -/
structure FnAt (prog : Program) (K : Frag) (C fI : Addr) (fd : FuncData) : Prop where
  ex : ∃ (oc : Value) (od : Option Addr) (osl : Array (Option Value)) (q : Str) (p1 p2 p3 q1 q2 q3 q4 q5 q6 q7 q8 q9 : Pos) (dV kV doc pm : Value) (an : Option Addr) (cda : Addr) (ct : Value) (cc : Addr),
    fd = ksFn "__init__" q (iA p1 p2 p3) (iB q1 q2 q3 q4 q5 q6 q7 q8 q9) iS dV kV doc pm an (.ref cda) ct cc ∧
    K.lookup fI = some ⟨oc, od, .func fd, osl⟩ ∧ codeIn K (.ref cda) q = true ∧
    (∃ ccl cdd vs file tf ccs, K.lookup cda = some ⟨ccl, cdd, .fields vs, ccs⟩ ∧ vs[2]? = some (.str file tf) ∧ ((prog.main.file : Str) == file) = true) ∧
    (∃ cl cld csl, K.lookup cc = some ⟨cl, cld, .cell (some (.ref C)), csl⟩) ∧ L2.DflV K dV [.non] ∧ (q3.endLine == q4.line) = true
/-- what the written part says of such a class -/
structure VTxt (prog : Program) (K : Frag) (mg : Str → Option Value) (C fI : Addr) (fd : FuncData) : Prop where
  cls : ∃ nm q N bs bm sn sub ab col dd k0 k1 k2 k3 k5, K.lookup C = some (excClassObj nm q C N bs bm true sn sub ab col dd k0 k1 k2 k3 k5 "ValueError.__new__") ∧ refsVE bm = true
  sa : findIn K (.ref C) "__setattr__" = some (some (.builtin "object.__setattr__"))
  noN : findIn K (.ref C) "value" = some none
  iC : findIn K (.ref C) "__init__" = some (some (.ref fI))
  tI : typeIn K (.ref fI) = some (.type "function")
  sup : ks_superIn K C C "__init__" = some (some (.builtin "ValueError.__init__"))
  third : nsIn K cStatics "thirdparty.any" = some none
  fn : FnAt prog K C fI fd
  noSuper : mg "super" = none
  top : (prog.main.scope.names.lookup ("super" : Str)).isSome = false
/-- what __init__ leaves of a fresh exception at x -/
structure InitEnd (h h' : Heap) (x C dx t1 : Addr) (v : Value) : Prop where
  keep : ∀ b o, b ≠ x → h.get? b = some o → h'.get? b = some o
  obj : h'.get? x = some { cls := .ref C, dict := some dx, data := .fields #[.ref t1, .none, .none, .none, .bool false, .none] }
  dbig : h.objs.size ≤ dx
  dne : dx ≠ x
  ns : h'.Ns1 dx (fun y => if y = "value" then some v else none)
theorem super_call {o : Expr} {name : Str} {apos pos : Pos} {env : Env} (hl : (apos.endLine == pos.line) = true) : eval (.Call (.Attribute o name apos) [] [] pos) env = (do
      let ov ← attributeBase o name env (eval o env)
      standAt apos.atName
      let (f, first) ← holding [ov] (getMethod ov name (do return (← importBound o env).getD true))
      callWith pos f first (backTo pos (starEach [] env)) []) := by
  have e : methodCallPos (methodCallForm 0 (backTo pos (starEach [] env)) []) o env apos pos = pure pos := by
    have z : (!(methodCallForm 0 (backTo pos (starEach [] env)) []) || apos.endLine == pos.line) = true := by rw [hl, Bool.or_true]
    unfold methodCallPos
    rw [if_pos z]
  rw [arm_eval_Call]
  show (do
    let ov ← attributeBase o name env (eval o env)
    standAt apos.atName
    let (f, first) ← holding [ov] (getMethod ov name (do return (← importBound o env).getD true))
    let callPos ← methodCallPos (methodCallForm 0 (backTo pos (starEach [] env)) []) o env apos pos
    callWith callPos f first (backTo pos (starEach [] env)) []) = _
  rw [e]
  rfl
section
variable {prog : Program} {w : World} {A : Around} {E : Value → Shared → Prop} {R : Result → Shared → Prop} {s : Shared} {K : Frag} {mg : Str → Option Value} {C fI : Addr} {fd : FuncData}
theorem vinit (T : VTxt prog K mg C fI fd) {x t0 : Addr} {v : Value} {args : Args} (X : K.In s.heap) (G : s.heap.Ns mainGlobals mg) (Bt : ∃ mb, s.heap.Ns builtinsNs mb ∧ ∀ y : Str, y ≠ "__name__" → mb y = bootBuiltins y)
    (hlim : s.heap.NoLimit) (hx : s.heap.get? x = some (excO C t0)) (hnx : K.lookup x = none) (hroom : A.depth < recursionLimit)
    (hbind : BindsTo s fd args [("self", .ref x), ("value", v)])
    (hq : ∀ h' tk dx t1, InitEnd s.heap h' x C dx t1 v → R (.ok (.ret .none)) { s with heap := h', toks := tk }) :
    codeAny (model prog w) A (.call (.ref fI) args) R s := by
  obtain ⟨oc, od, osl, q, p1, p2, p3, q1, q2, q3, q4, q5, q6, q7, q8, q9, dV, kV, doc, pm, an, cda, ct, cc, rfl, ho, hcd, ⟨ccl, cdd, vs, file, tf, ccs, hcode, hvs, hfile⟩, ⟨cl, cld, csl, hcell⟩, hdfl, hline⟩ := T.fn.ex
  obtain ⟨nm, q0, N, bs, bm, sn, sub, ab, col, dd, k0, k1, k2, k3, k5, hC, hbm⟩ := T.cls
  have hcl : clsIn K C = some { name := nm, bases := bs, mro := .ref C :: bm, ns := N, qualname := q0, hasDict := true, slotNames := sn, subclasses := sub, abstract := ab, collection := col, hasDel := false } := by unfold clsIn; rw [hC] <;> rfl
  refine ks_codeAny_call_defAt (fd := ksFn "__init__" q (iA p1 p2 p3) (iB q1 q2 q3 q4 q5 q6 q7 q8 q9) iS dV kV doc pm an (.ref cda) ct cc) (body := iB q1 q2 q3 q4 q5 q6 q7 q8 q9) (binds := [("self", .ref x), ("value", v)]) hroom (X _ _ ho) rfl hlim (codeRec_of X hcd) rfl hbind (by show ∀ y ∈ iS.names, _; decide +kernel) ?_ (fun h₁ hns k₁ => ?_)
  · intro y hy
    rcases List.mem_cons.mp hy with rfl | hy
    · rfl
    · rcases List.mem_cons.mp hy with rfl | hy
      · rfl
      · cases hy
  obtain ⟨hp, g, d, t, os⟩ := s
  have X₁ : K.In h₁ := X.keeps k₁
  have hx₁ := k₁ _ _ hx
  have hxL : hp.objs.size ≠ x := Nat.ne_of_gt (Heap.lt_size hx)
  have xC : x ≠ C := by
    rintro rfl
    have e := X _ _ hC
    rw [hx] at e
    cases e
  have hself : ∀ h' : Heap, h'.Ns hp.objs.size (fun y => [(("self" : Str), Value.ref x), (("value" : Str), v)].reverse.lookup y) → True := fun _ _ => trivial
  show wpAt (model prog w) (A.deeper (ksEnv q iS hp.objs.size fI (.ref cda) cc)) (.func (iB q1 q2 q3 q4 q5 q6 q7 q8 q9) (ksEnv q iS hp.objs.size fI (.ref cda) cc))
    (execs [.Expr (.Call (.Attribute (.Call (.Name "super" q1) [] [] q2) "__init__" q3) [] [] q4) q5, .Assign [.Attribute (.Name "self" q6) "value" q7] (.Name "value" q8) q9] (ksEnv q iS hp.objs.size fI (.ref cda) cc)) _ _ ⟨h₁, g, d, t + 2, os⟩
  refine ks_wpAt_execs_cons (ks_wpAt_Expr_any (ks_wpAt_MethodCall ?_ (super_call hline)))
  refine ks_wpAt_super_base (env := ksEnv q iS hp.objs.size fI (.ref cda) cc) (by rfl) (by rfl) (by decide +kernel) rfl (X₁ _ _ ho) rfl (by rfl) rfl (X₁ _ _ hcode) rfl hvs hfile T.top ?_
  obtain ⟨mb, hmb, hbt⟩ := Bt
  refine ks_loadName_global (by rfl) (by rfl) (loadGlobal_builtin (env := ksEnv q iS hp.objs.size fI (.ref cda) cc) (G.keeps k₁) T.noSuper (hmb.keeps k₁) ((hbt _ (by decide +kernel)).trans (by decide +kernel)) ⟨rfl, ?_⟩)
  refine wpAny_loadName_free (by rfl) (by rfl) (by rfl) ⟨_, X₁ _ _ hcell, rfl⟩ ?_
  refine wpAny_loadName_local (v := .ref x) (by rfl) (by rfl) hns (by first | rfl | decide +kernel | kernel_rfl) ?_
  have hC₁ := X₁ _ _ hC
  refine ks_wpAny_isType_cls hC₁ rfl ⟨rfl, ?_⟩
  have hmC : mroIn K C (.ref C) = some true := by
    unfold mroIn
    rw [hcl]
    simp
  have hmV : mroIn K C (.type "ValueError") = some true := by
    unfold mroIn
    have e : (Value.ref C :: bm).contains (.type "ValueError") = true := by
      rw [List.contains_cons, refsVE_contains "ValueError" bm hbm, show veTail.contains (.type "ValueError") = true by decide +kernel, Bool.or_true]
    rw [hcl]
    show (if (Value.ref C :: bm).isEmpty = true then none else some ((Value.ref C :: bm).contains (.type "ValueError"))) = some true
    rw [e]
    rfl
  refine ks_wpAny_call_super hC₁ rfl hx₁ rfl (fun c e => by cases e) (looks_mroIn X₁ hmC) (fun h₂ hso k₂ => ?_)
  have X₂ : K.In h₂ := X₁.keeps k₂
  have hx₂ := k₂ _ _ hx₁
  have I₂ : InstAt h₂ x (excO C t0) C none := ⟨hx₂, rfl, rfl, trivial⟩
  have hsup : alongIn K "__init__" (((Value.ref C :: bm).dropWhile (· != .ref C)).drop 1) = some (some (.builtin "ValueError.__init__")) := by
    have e := T.sup
    unfold ks_superIn at e
    rw [hcl] at e
    exact e
  refine kxs_getMethod kxs_ValueError hso (looks_opaque X₂ T.third) (l₀ := .ref C :: bm) ?_ rfl X₂ hsup ?_ xC (by decide +kernel) ?_
  · exact fun A Q E s k q => wpAny_bind ((looks_clsIn X₂ hcl) A _ E s k (wpAny_pure q))
  · exact I₂.type.andThen (looks_mroIn X₂ hmV)
  -- the wrapper called
  have hmw : (h₂.push (kxs_mw "ValueError.__init__" x)).get? h₂.objs.size = some (kxs_mw "ValueError.__init__" x) := Heap.get?_push_at rfl rfl
  have k₃ : ∀ b o, h₂.get? b = some o → (h₂.push (kxs_mw "ValueError.__init__" x)).get? b = some o := fun b o e => Heap.get?_push_of_some _ e
  have X₃ : K.In (h₂.push (kxs_mw "ValueError.__init__" x)) := X₂.keeps k₃
  have hx₃ := k₃ _ _ hx₂
  refine kxs_callWith (i := "ValueError.__init__") (x := x) rfl (evalArgs_empty ⟨hmw, ?_⟩)
  show wpAny _ _ (call (.ref h₂.objs.size) []) _ _ _
  refine wpAny_call (codeAny_of_tree ?_)
  show wpAny _ (A.deeper (ksEnv q iS hp.objs.size fI (.ref cda) cc)).in1 (callAny (.ref h₂.objs.size) ⟨[], []⟩) _ _ _
  simp only [callAny]
  refine wpAny_bind (wpAny_load hmw ?_)
  simp only [kxs_mw, show (Value.type "method-wrapper" == Value.type "method" || Value.type "method-wrapper" == Value.type "builtin_function_or_method" || Value.type "method-wrapper" == Value.type "method-wrapper") = true by decide, if_true]
  refine KFB.if_so (by decide) ?_
  refine wpAny_bind (check_bound_init F.excBase_ValueError.toExcCallFacts (X₃ _ _ hC) hx₃ rfl ?_)
  refine wpAny_bind (wpAny_pure (wpAny_pure ?_))
  refine ⟨plainId_quiet F.excBase_ValueError.init.plain _, codeAny_builtin F.excBase_ValueError.initEntry ?_⟩
  refine exc_init_tree (cls := .ref C) (t0 := t0) (dv := none) (c2 := .none) (c3 := .none) (b4 := .bool false) hx₃ (by rw [sizeLine_eq]; decide) (fun h₄ k₄ hx₄ ht₄ => ?_)
  -- self.value = value
  show wpAt _ _ _ (execs [.Assign [.Attribute (.Name "self" q6) "value" q7] (.Name "value" q8) q9] (ksEnv q iS hp.objs.size fI (.ref cda) cc)) _ _ _
  have Lne : ∀ h' : Heap, (∀ b o, b ≠ x → h₁.get? b = some o → h'.get? b = some o) → h'.Ns hp.objs.size (fun y => [(("self" : Str), Value.ref x), (("value" : Str), v)].reverse.lookup y) := fun h' k' => by
    obtain ⟨oL, es, ep, hL, r⟩ := hns
    exact ⟨oL, es, ep, k' _ _ hxL hL, r⟩
  have k₁₄ : ∀ b o, b ≠ x → h₁.get? b = some o → h₄.get? b = some o := fun b o hb e => k₄ b o hb (k₃ b o (k₂ b o e))
  have X₄ : K.In h₄ := fun a o e => k₄ a o (fun z => by rw [z, hnx] at e; cases e) (X₃ _ _ e)
  refine wpAt_of_wpAny (wpAny_execs_cons (plainObj_wpAny_Assign_Attribute ?_))
  refine ESX.ldL (v := v) (Lne h₄ k₁₄) (by first | rfl | decide +kernel | kernel_rfl) (ESX.ldL (v := .ref x) (Lne h₄ k₁₄) (by first | rfl | decide +kernel | kernel_rfl) ?_)
  refine set_plain X₄ (ox := excO C _) (od := none) ⟨hx₄, rfl, rfl, trivial⟩ T.sa ?_
  refine exc_osa X₄ hx₄ hcl (show refsVE (.ref C :: bm) = true from hbm) rfl T.noN (fun h₅ tk₅ dx k₅ dn dne hx₅ hn₅ => ?_)
  refine wpAny_execs_nil (hq h₅ tk₅ dx _ ⟨fun b o hb e => k₅ b o hb (k₁₄ b o hb (k₁ b o e)), hx₅, ?_, dne, hn₅⟩)
  have z1 : hp.objs.size < h₁.objs.size := hns.lt
  have z2 : hp.objs.size < h₄.objs.size := by
    obtain ⟨oL, es, ep, hL, r⟩ := Lne h₄ k₁₄
    exact Heap.lt_size hL
  exact Nat.le_of_lt (Nat.lt_of_lt_of_le z2 dn)
end
end VX
end PySem


/-! C(..), C an own class of errors, with keyword arguments too. -/
namespace PySem
namespace VX
open PySem.W PySem.Calls PyProof.Rows PySem.HandSPX
section
variable {M : Model} {prog : Program} {w : World} {A : Around} {E : Value → Shared → Prop} {R : Result → Shared → Prop} {h : Heap} {g : Array GenState} {d : Drawn} {t : Nat} {os : OsState}
variable {nm q : Str} {C N : Addr} {bs bm bmB : List Value} {hdct : Bool} {sn : List Str} {sub : List Value} {ab : Bool} {col : Option Bool} {dd : Option Addr} {k0 k1 k2 k3 k5 : Option Value} {B newId initId : String}
theorem check_newK (F : ExcBaseFacts B newId initId bmB) (hT : ∀ X : String, bm.contains (.type X) = bmB.contains (.type X)) {rest : List Value} {kw : List (Str × Value)} {Q : Unit → Shared → Prop}
    (hC : h.get? C = some (excClassObj nm q C N bs bm hdct sn sub ab col dd k0 k1 k2 k3 k5 newId)) (hq : Q () ⟨h, g, d, t, os⟩) : wpAny M A (checkBuiltinCall newId ⟨.ref C :: rest, kw⟩) Q E ⟨h, g, d, t, os⟩ := by
  have hcont : (Value.ref C :: bm).contains (.type B) = true := by rw [List.contains_cons, hT, F.hasB, Bool.or_true]
  have hstar := F.noStar
  simp only [checkBuiltinCall, F.newKind, F.newSplit, F.newRow]
  repeat (first | refine wpAny_loadPart_at hC ?_ | (refine wpAny_isSubtype_exc hC ?_; rw [hcont]) | refine wpAny_staticBase_exc hC ?_ | refine wpAny_madeBy_exc hC ?_ | simp only [bne_self_eq_false, Bool.false_eq_true, if_false] | wp_step)
  exact hq
theorem newK (F : ExcBaseFacts B newId initId bmB) (hT : ∀ X : String, bm.contains (.type X) = bmB.contains (.type X)) {rest : List Value} {kw : List (Str × Value)}
    (hC : h.get? C = some (excClassObj nm q C N bs bm hdct sn sub ab col dd k0 k1 k2 k3 k5 newId))
    (hq : R (.ok (.ret (.ref (h.objs.size + 1)))) ⟨(h.push { cls := .type "tuple", data := .seq rest.toArray }).push
      { cls := .ref C, data := .fields #[.ref h.objs.size, .none, .none, .none, .bool false, .none] }, g, d, t, os⟩) (hrest : rest.length ≤ sizeLine) :
    codeAny (model prog w) A (.builtin newId ⟨.ref C :: rest, kw⟩) R ⟨h, g, d, t, os⟩ := by
  have hends := F.ends
  have hcB : (Value.ref C :: bm).contains (.type B) = true := by rw [List.contains_cons, hT, F.hasB, Bool.or_true]
  have hcA : (Value.ref C :: bm).contains (.type "AttributeError") = false := by rw [List.contains_cons, hT, F.noAttr]; rfl
  have hcN : (Value.ref C :: bm).contains (.type "NameError") = false := by rw [List.contains_cons, hT, F.noName]; rfl
  refine codeAny_builtinAt F.entry ?_
  unfold Builtin.«BaseException.__new__»
  refine wpAt_bind ?_
  show wpAt _ _ _ (stack >>= _) _ _ _
  refine wpAt_bind (wpAt_stack fun p below => wpAt_of_wpAny ?_)
  wp_walk
  refine wpAt_of_wpAny ?_
  rw [F.owner]
  repeat (first | with_reducible refine wpAny_madeHere_exc F.canon hC ?_ | with_reducible refine wpAny_loadPart_at hC ?_ | (with_reducible refine wpAny_isSubtype_exc hC ?_; first | rw [hcB] | rw [hcA] | rw [hcN]) | wp_step)
  show R _ _
  rw [Heap.size_push]
  exact hq
theorem type_callK (F : ExcBaseFacts B newId initId bmB) (hT : ∀ X : String, bm.contains (.type X) = bmB.contains (.type X)) {rest : List Value} {kw : List (Str × Value)} {fI : Addr} {Q : Fin → Shared → Prop}
    (hC : h.get? C = some (excClassObj nm q C N bs bm hdct sn sub ab col dd k0 k1 k2 k3 k5 newId))
    (hi : W.Looks (model prog w) h (typeLookup (.ref C) "__init__") (some (.ref fI))) (hb : ∀ self, W.Looks (model prog w) h (bindSpecial (.ref fI) self) (.ref fI, [self])) (hrest : rest.length ≤ sizeLine)
    (hq : codeAny (model prog w) A (.call (.ref fI) ⟨.ref (h.objs.size + 1) :: rest, kw⟩)
      (fun r s' => match r with | .ok (.ret v) => v = .none ∧ Q (.done (.ret (.ref (h.objs.size + 1)))) s' | .ok _ => False | .error e => E e s')
      ⟨(h.push (W.kdv_tup rest)).push (excO C h.objs.size), g, d, t, os⟩) :
    wpAny (model prog w) A (Builtin.«type.__call__» ⟨.ref C :: rest, kw⟩) Q E ⟨h, g, d, t, os⟩ := by
  repeat (first | with_reducible refine wpAny_loadPart_at hC ?_ | with_reducible refine wpAny_madeBy_exc hC ?_ | wp_step)
  refine codeAny_call_builtin_code (Code.quiet_builtin _ F.quiet) (check_newK F hT hC ?_)
  refine newK F hT hC ?_ hrest
  show wpAny _ _ _ _ _ _
  have k : ∀ b o, h.get? b = some o → ((h.push (W.kdv_tup rest)).push (excO C h.objs.size)).get? b = some o := fun b o e => Heap.get?_push_of_some _ (Heap.get?_push_of_some _ e)
  have hC₁ := k _ _ hC
  have hget : ((h.push (W.kdv_tup rest)).push (excO C h.objs.size)).get? (h.objs.size + 1) = some (excO C h.objs.size) := by heap_get
  have hcC : (Value.ref C :: bm).contains (.ref C) = true := by simp
  have i1 := hi.keeps k
  have b1 := (hb (.ref (h.objs.size + 1))).keeps k
  unfold isInstance
  repeat (first | with_reducible refine wpAny_loadPart_at hget ?_ | (with_reducible refine wpAny_isSubtype_exc hC₁ ?_; rw [hcC]) | wp_step)
  show wpAny _ _ (typeLookup (.ref C) _) _ _ _
  refine i1.at ?_
  refine wpAny_holding (wpAny_bind (b1.at ?_))
  refine wpAny_bind (wpAny_call (codeAny_mono hq fun r s' z => ?_))
  rcases r with e | (v | _ | _ | _) <;> first | exact z | exact z.elim | skip
  obtain ⟨rfl, z⟩ := z
  first
    | exact wpAny_pure (wpAny_pure z)
    | (wp_walk; exact z)
theorem callK (F : ExcBaseFacts B newId initId bmB) (hT : ∀ X : String, bm.contains (.type X) = bmB.contains (.type X)) {rest : List Value} {kw : List (Str × Value)} {fI : Addr}
    (hC : h.get? C = some (excClassObj nm q C N bs bm hdct sn sub ab col dd k0 k1 k2 k3 k5 newId))
    (hi : W.Looks (model prog w) h (typeLookup (.ref C) "__init__") (some (.ref fI))) (hb : ∀ self, W.Looks (model prog w) h (bindSpecial (.ref fI) self) (.ref fI, [self])) (hrest : rest.length ≤ sizeLine)
    (hq : codeAny (model prog w) (A.under (.builtin "type.__call__" ⟨.ref C :: rest, kw⟩)) (.call (.ref fI) ⟨.ref (h.objs.size + 1) :: rest, kw⟩) (W.InitBack (h.objs.size + 1) R)
      ⟨(h.push (W.kdv_tup rest)).push (excO C h.objs.size), g, d, t, os⟩) :
    codeAny (model prog w) A (.call (.ref C) ⟨rest, kw⟩) R ⟨h, g, d, t, os⟩ := by
  have f1 := tc_lookup
  have f2 := tc_bind (.ref C)
  have hTy : (⟨h, g, d, t, os⟩ : Shared).TypeIs (.ref C) "type" := ⟨_, hC, rfl⟩
  refine codeAny_of_tree ?_
  show wpAny _ _ (callAny (.ref C) _) _ _ _
  repeat (any_goals (first | assumption | with_reducible refine wpAny_loadPart_at hC ?_ | wp_step))
  refine ⟨rfl, ?_⟩
  refine codeAny_call_builtin_at (Code.quiet_builtin _ (by decide +kernel)) entry_typeCall (wpAny_check_type_call_sub hC (type_callK F hT hC hi hb hrest ?_))
  refine codeAny_mono hq fun r s' z => ?_
  rcases r with e | (v | _ | _ | _) <;> exact z
end
/-- a made error: at e, its own dict at d, that holds the value v -/
structure Made (h h' : Heap) (e C d : Addr) (v : Value) : Prop where
  keep : ∀ b o, h.get? b = some o → h'.get? b = some o
  new : h.objs.size ≤ e
  obj : ∃ t1 : Addr, h'.get? e = some { cls := .ref C, dict := some d, data := .fields #[.ref t1, .none, .none, .none, .bool false, .none] }
  dbig : h.objs.size ≤ d
  dne : d ≠ e
  ns : h'.Ns1 d (fun y => if y = "value" then some v else none)
section
variable {prog : Program} {w : World} {A : Around} {R : Result → Shared → Prop} {s : Shared} {K : Frag} {mg : Str → Option Value} {C fI : Addr} {fd : FuncData}
theorem vmade (T : VTxt prog K mg C fI fd) {v : Value} {rest : List Value} {kw : List (Str × Value)} (X : K.In s.heap) (G : s.heap.Ns mainGlobals mg) (Bt : ∃ mb, s.heap.Ns builtinsNs mb ∧ ∀ y : Str, y ≠ "__name__" → mb y = bootBuiltins y)
    (hlim : s.heap.NoLimit) (hroom : A.depth + 1 < recursionLimit) (hrest : rest.length ≤ sizeLine) (hb : ∀ (x : Addr) (s' : Shared), K.In s'.heap → BindsTo s' fd ⟨.ref x :: rest, kw⟩ [("self", .ref x), ("value", v)])
    (hq : ∀ h' tk e d, Made s.heap h' e C d v → R (.ok (.ret (.ref e))) { s with heap := h', toks := tk }) :
    codeAny (model prog w) A (.call (.ref C) ⟨rest, kw⟩) R s := by
  obtain ⟨nm, q, N, bs, bm, sn, sub, ab, col, dd, k0, k1, k2, k3, k5, hC, hbm⟩ := T.cls
  obtain ⟨hp, g, dr, tk, os⟩ := s
  have grow : ∀ b o, hp.get? b = some o → ((hp.push (kdv_tup rest)).push (excO C hp.objs.size)).get? b = some o := fun b o z => Heap.get?_push_of_some _ (Heap.get?_push_of_some _ z)
  have there : ((hp.push (kdv_tup rest)).push (excO C hp.objs.size)).get? (hp.objs.size + 1) = some (excO C hp.objs.size) := by heap_get
  have notK : K.lookup (hp.objs.size + 1) = none := by
    cases z : K.lookup (hp.objs.size + 1) with
    | none => rfl
    | some o =>
      have l := Heap.lt_size (X _ _ z)
      have l : hp.objs.size + 1 < hp.objs.size := l
      omega
  refine callK F.excBase_ValueError (fun Y => refsVE_contains Y bm hbm) (X _ _ hC) (looks_findIn X T.iC) (fun self => bind_fn X self T.tI) hrest ?_
  have X' : K.In ((hp.push (kdv_tup rest)).push (excO C hp.objs.size)) := X.keeps grow
  have Bt' : ∃ mb, ((hp.push (kdv_tup rest)).push (excO C hp.objs.size)).Ns builtinsNs mb ∧ ∀ y : Str, y ≠ "__name__" → mb y = bootBuiltins y := by
    obtain ⟨mb, h1, h2⟩ := Bt
    exact ⟨mb, h1.keeps grow, h2⟩
  refine vinit (s := ⟨(hp.push (kdv_tup rest)).push (excO C hp.objs.size), g, dr, tk, os⟩) T X' (G.keeps grow) Bt' (hlim.keeps grow) there notK hroom (hb _ _ X') fun h' tk' dx t1 z => ?_
  refine ⟨rfl, hq h' tk' (hp.objs.size + 1) dx ⟨fun b o y => z.keep b o ?_ (grow b o y), Nat.le_succ _, ⟨t1, z.obj⟩, ?_, z.dne, z.ns⟩⟩
  · have l := Heap.lt_size y
    intro e
    rw [e] at l
    have l : hp.objs.size + 1 < hp.objs.size := l
    omega
  · have l := z.dbig
    have l : ((hp.push (kdv_tup rest)).push (excO C hp.objs.size)).objs.size ≤ dx := l
    rw [Heap.size_push, Heap.size_push] at l
    show hp.objs.size ≤ dx
    omega
end
end VX
end PySem


/-! A small language and what it computes on deep data; no machine in sight. -/
namespace B
open PySem

/-- deep data: pur the purse (a list of four upTo that is changed in place), fn a def of the table -/
inductive D where
  | non | bl (b : Bool) | int (i : Int) | str (x : Str) | tup (xs : List D) | lst (xs : List D) | dct (kvs : List (D × D)) | obj (c : Nat) (fs : List D) | pur | fn (g : Nat) | err (c : Nat) (x : D) | raw | er0 (c : Nat)
def D.key1 : D → Option PyData
  | .int i => some (.int i)
  | .str x => some (.str x)
  | _ => none
mutual
def D.py : D → Option PyData
  | .non => some .none
  | .bl b => some (.bool b)
  | .int i => some (.int i)
  | .str x => some (.str x)
  | .tup xs => match pyL xs with
    | some l => some (.tuple l)
    | none => none
  | .lst xs => match pyL xs with
    | some l => some (.list l)
    | none => none
  | .dct _ => none
  | .obj _ _ => none
  | .pur => none
  | .fn _ => none
  | .err _ _ => none
  | .raw => none
  | .er0 _ => none
def pyL : List D → Option (List PyData)
  | [] => some []
  | x :: xs => match D.py x, pyL xs with
    | some a, some l => some (a :: l)
    | _, _ => none
end
mutual
/-- with dicts of ints and texts -/
def D.pyR : D → Option PyData
  | .non => some .none
  | .bl b => some (.bool b)
  | .int i => some (.int i)
  | .str x => some (.str x)
  | .tup xs => match pyRL xs with
    | some l => some (.tuple l)
    | none => none
  | .lst xs => match pyRL xs with
    | some l => some (.list l)
    | none => none
  | .dct kvs => match pyRK kvs with
    | some l => some (.dict l)
    | none => none
  | _ => none
def pyRL : List D → Option (List PyData)
  | [] => some []
  | x :: xs => match D.pyR x, pyRL xs with
    | some a, some l => some (a :: l)
    | _, _ => none
def pyRK : List (D × D) → Option (List (PyData × PyData))
  | [] => some []
  | (k, d) :: xs => match k.key1, D.pyR d, pyRK xs with
    | some q, some a, some l => some ((q, a) :: l)
    | _, _, _ => none
end
/-- lists at most so long are made here -/
def LIM : Nat := 1000000
def strLt (x y : Str) : Bool := decide (x.cps.toList < y.cps.toList)
def strLe (x y : Str) : Bool := !strLt y x
def eqD (a b : D) : Option Bool := match a.py, b.py with
  | some x, some y => if min x.depth y.depth ≤ 60 then some (PyData.eqv x y) else none
  | _, _ => none
/-- a dict's key: an int or a text, or a tuple of such -/
def D.k1 : D → Option L2.Key
  | .int i => some (.inl i)
  | .str x => some (.inr x)
  | _ => none
def k1L : List D → Option (List L2.Key)
  | [] => some []
  | x :: xs => match x.k1, k1L xs with
    | some a, some l => some (a :: l)
    | _, _ => none
abbrev KeyD := Sum L2.Key (List L2.Key)
def D.kd : D → Option KeyD
  | .tup xs => match k1L xs with
    | some l => some (.inr l)
    | none => none
  | d => match d.k1 with
    | some k => some (.inl k)
    | none => none
def findK (k : KeyD) : List (D × D) → Option D
  | [] => none
  | p :: r => if p.1.kd = some k then some p.2 else findK k r
def putKv (k : KeyD) (kd v : D) (kvs : List (D × D)) : List (D × D) :=
  if (kvs.any fun p => decide (p.1.kd = some k)) = true then kvs.map (fun p => if p.1.kd = some k then (p.1, v) else p) else kvs ++ [(kd, v)]
/-- a display's pairs, keys and values by turns -/
def mkD : List D → List (D × D) → Option (List (D × D))
  | [], acc => some acc
  | k :: v :: r, acc => match k.k1 with
    | some q => mkD r (putKv (.inl q) k v acc)
    | none => none
  | _, _ => none
def sameKind : KeyD → KeyD → Bool
  | .inl _, .inl _ => true
  | .inr _, .inr _ => true
  | _, _ => false
/-- the keys are of one kind -/
def homog (k : KeyD) (kvs : List (D × D)) : Bool := kvs.all fun p => match p.1.kd with
  | some j => sameKind k j
  | none => false

inductive Bop | add | sub | mul | fdv | mod | pow deriving DecidableEq
inductive Cop | eq | ne | lt | le | gt | ge | is | nis | inn | nin deriving DecidableEq
inductive Ty | int | bool | str | list | tuple | dict | own (c : Nat) | exc (cs zs : List Nat) deriving DecidableEq
inductive Bi | len | all | any | int | sum | list | tuple | dict | sorted | setlen | repr deriving DecidableEq
inductive Bi2 | max | min deriving DecidableEq
inductive Bm | bitlen | values | items deriving DecidableEq
inductive Bm1 | join | get1 deriving DecidableEq
/-- where a loop's item goes: a slot, or a tuple's items to slots -/
inductive Tg | one (i : Nat) | many (is : List Nat)
def Tg.slots : Tg → List Nat
  | .one i => [i]
  | .many is => is
mutual
inductive E where
  | omit
  | var (i : Nat)
  | cst (d : D)
  | lst (es : Es) | tup (es : Es)
  | neg (a : E) | not (a : E)
  | bin (o : Bop) (a b : E)
  | cmp (o : Cop) (a b : E)
  | chn (o p : Cop) (a b c : E)
  | and (a b : E) | or (a b : E)
  | ife (c a b : E)
  | sub (a i : E)
  | slc (a lo hi : E)
  | call (f : Nat) (es : Es)
  | mke (c : Nat) (a : E)
  | mkz (c : Nat)
  | vlu (a : E)
  | dnew
  | dsp (es : Es)
  | bi (b : Bi) (a : E)
  | bi2 (b : Bi2) (a c : E)
  | bm (m : Bm) (a : E)
  | bm1 (m : Bm1) (a c : E)
  | isi (a : E) (t : Ty)
  | lc (tg : Tg) (it : It) (el : E)
  | lcif (tg : Tg) (it : It) (c el : E)
inductive Es where
  | nil | cons (e : E) (r : Es)
inductive It where
  | val (e : E) | rng (a : E) | rng2 (a b : E)
end
/-- how a result stands: told already, made just now and nowhere else, held by a slot of its own -/
inductive Mode | cold | fresh | bor deriving DecidableEq
/-- the purse: its four numbers -/
structure Pu where
  a : Int
  b : Int
  c : Int
  d : Int
def argV : Es → Nat → Option Nat
  | .cons (.var i) _, 0 => some i
  | .cons _ r, n + 1 => argV r n
  | _, _ => none
inductive R where
  | ok (d : D) (m : Mode) (P : Option Pu)
  | exc (c : Nat) (o : Option Nat) (d : D) (P : Option Pu)
inductive RL where
  | ok (ds : List D) (P : Option Pu)
  | exc (c : Nat) (o : Option Nat) (d : D) (P : Option Pu)
inductive Slot | no | cold (d : D) | own (d : D)
abbrev Sl := List Slot
/-- what a callee raises, told with the caller's names -/
def reO (es : Es) : Option R → Option R
  | some (.exc c o d P) => some (.exc c (o.bind (argV es)) d P)
  | r => r
abbrev Calls := Nat → List D → Option Pu → Option R

def rget (σ : Sl) (i : Nat) : Option (D × Mode) := match σ[i]? with
  | some (.cold d) => some (d, .cold)
  | some (.own d) => some (d, .bor)
  | _ => none
def small (i : Int) : Bool := decide (-(2 ^ 64) < i) && decide (i < 2 ^ 64)
def binD (o : Bop) : D → D → Option (D × Mode)
  | .int i, .int j => match o with
    | .add => some (.int (i + j), .cold)
    | .sub => some (.int (i - j), .cold)
    | .mul => if small i || small j then some (.int (i * j), .cold) else none
    | .fdv => if decide (0 < j) && decide (j < 1073741824) then some (.int (i / j), .cold) else none
    | .mod => if decide (0 < j) then some (.int (i % j), .cold) else none
    | .pow => if decide (0 ≤ j) && decide ((Builtin.Int.intBits i : Int) * j ≤ 134217728) then some (.int (i ^ j.toNat), .cold) else none
  | .str x, .str y => match o with
    | .add => if x.length + y.length ≤ LIM then some (.str (x ++ y), .cold) else none
    | _ => none
  | .lst x, .lst y => match o with
    | .add => if x.length + y.length ≤ LIM then some (.lst (x ++ y), .fresh) else none
    | _ => none
  | _, _ => none
def inD (x : D) (ys : List D) : Option Bool := match pyL ys, x.py with
  | some l, some d => if min (PyData.depthAll l) d.depth ≤ 60 then some (l.any fun y => PyData.eqv y d) else none
  | _, _ => none
def isNonD : D → Bool
  | .non => true
  | _ => false
def isRaw : D → Bool
  | .raw => true
  | _ => false
def isD (x y : D) : Option Bool := match y with
  | .non => if isRaw x then none else some (isNonD x)
  | _ => none
def isNone : PyData → Bool
  | .none => true
  | _ => false
/-- a < b of alike data -/
def ltD (a b : D) : Option Bool := match a, b with
  | .int i, .int j => some (decide (i < j))
  | .str x, .str y => some (strLt x y)
  | _, _ => match a.py, b.py with
    | some x, some y => if (PySem.W.alike x y && !isNone x) && (PySem.W.alike y x && decide (min x.depth y.depth ≤ 60)) then some (PySem.W.dataLt x y) else none
    | _, _ => none
def memD (a b : D) : Option Bool := match b with
  | .lst ys => inD a ys
  | .tup ys => inD a ys
  | .dct kvs => match a.kd with
    | some k => if homog k kvs then some (findK k kvs).isSome else none
    | none => none
  | _ => none
def cmpD (o : Cop) (a b : D) : Option Bool := match o with
  | .eq => eqD a b
  | .ne => (eqD a b).map (!·)
  | .lt => ltD a b
  | .le => (ltD b a).map (!·)
  | .gt => ltD b a
  | .ge => (ltD a b).map (!·)
  | .is => isD a b
  | .nis => (isD a b).map (!·)
  | .inn => memD a b
  | .nin => (memD a b).map (!·)
def subD (a i : D) : Option D := match a, i with
  | .lst xs, .int j => L2.atI xs j
  | .tup xs, .int j => L2.atI xs j
  | .str x, .int j => if x.length ≤ LIM then (L2.atI x.cps.toList j).map fun c => .str ⟨#[c]⟩ else none
  | .dct kvs, k => match k.kd with
    | some q => if homog q kvs then findK q kvs else none
    | none => none
  | _, _ => none

/-- a number of the purse -/
def puGet (P : Option Pu) (y : D) : Option D := match P, y with
  | some p, .int j => (L2.atI [p.a, p.b, p.c, p.d] j).map .int
  | _, _ => none
/-- what is looked for in a dict is told -/
def cmpM (o : Cop) (m : Mode) (a b : D) : Option Bool := match o, m with
  | .inn, .bor => none
  | .nin, .bor => none
  | _, _ => cmpD o a b
def subP (P : Option Pu) (a i : D) : Option D := match a with
  | .pur => puGet P i
  | a => subD a i
def subM (m : Mode) (P : Option Pu) (a i : D) : Option D := match m with
  | .bor => none
  | _ => subP P a i
def cutD {α : Type} (xs : List α) (lo hi : Option Int) : List α := (xs.drop (HT.sIx xs.length 0 lo)).take (HT.sIx xs.length xs.length hi - HT.sIx xs.length 0 lo)
def E.isOmit : E → Bool
  | .omit => true
  | _ => false
def bndD (o : Bool) (d : D) : Option (Option Int) := if o then some none else match d with
  | .int i => some (some i)
  | _ => none
def slcD (a : D) (l h : Option Int) : Option (D × Mode) := match a with
  | .lst xs => some (.lst (cutD xs l h), .fresh)
  | .str x => if x.length ≤ LIM then some (.str (L2.cutS x l h), .cold) else none
  | _ => none
def boolsD : List D → Option (List Bool)
  | [] => some []
  | .bl b :: r => (boolsD r).map (b :: ·)
  | _ => none
def intsD : List D → Option (List Int)
  | [] => some []
  | .int i :: r => (intsD r).map (i :: ·)
  | _ => none
def strsD : List D → Option (List Str)
  | [] => some []
  | .str x :: r => (strsD r).map (x :: ·)
  | _ => none
def reprD (a : D) : Option Str := match a.pyR with
  | some q => if q.showable && (decide (q.depth ≤ 60) && decide (q.shown.length ≤ LIM)) then some q.shown else none
  | none => none
def biD (b : Bi) (a : D) : Option (D × Mode) := match b with
  | .repr => match reprD a with
    | some x => some (.str x, .cold)
    | none => none
  | .len => match a with
    | .lst xs => some (.int xs.length, .cold)
    | .tup xs => some (.int xs.length, .cold)
    | .dct kvs => some (.int kvs.length, .cold)
    | .str x => if x.length ≤ LIM then some (.int x.length, .cold) else none
    | _ => none
  | .all => match a with
    | .lst xs => match boolsD xs with
      | some bs => some (.bl (bs.all id), .cold)
      | none => none
    | _ => none
  | .any => match a with
    | .lst xs => match boolsD xs with
      | some bs => some (.bl (bs.any id), .cold)
      | none => none
    | _ => none
  | .int => match a with
    | .int i => some (.int i, .cold)
    | .bl b => some (.int (if b then 1 else 0), .cold)
    | _ => none
  | .sum => match a with
    | .lst xs => match intsD xs with
      | some is => some (.int is.sum, .cold)
      | none => none
    | _ => none
  | _ => none
def biM (b : Bi) (m : Mode) (x : D) : Option (D × Mode) := match b, m with
  | .repr, .bor => none
  | b, _ => biD b x
def bi2D (b : Bi2) (a c : D) : Option D := match a, c with
  | .int i, .int j => match b with
    | .max => some (.int (if j > i then j else i))
    | .min => some (.int (if j < i then j else i))
  | _, _ => none
def bmD (m : Bm) (a : D) : Option (D × Mode) := match m with
  | .bitlen => match a with
    | .int i => some (.int (Builtin.Int.intBits i : Nat), .cold)
    | _ => none
  | _ => none
def recv (m : Bm1) (x : D) : Bool := match m with
  | .join => match x with
    | .str _ => true
    | _ => false
  | .get1 => match x with
    | .dct _ => true
    | _ => false
def bm1D (m : Bm1) (a c : D) : Option (D × Mode) := match m with
  | .join => match a, c with
    | .str x, .lst ys => match strsD ys with
      | some zs => if ((zs.map (·.length)).sum + x.length * zs.length) ≤ LIM then some (.str (Txt.join x zs), .cold) else none
      | none => none
    | _, _ => none
  | _ => none
def isiD (a : D) (t : Ty) : Option Bool := match t with
  | .int => some (match a with | .int _ => true | .bl _ => true | _ => false)
  | .bool => some (match a with | .bl _ => true | _ => false)
  | .str => some (match a with | .str _ => true | _ => false)
  | .list => some (match a with | .lst _ => true | _ => false)
  | .tuple => some (match a with | .tup _ => true | _ => false)
  | .dict => some (match a with | .dct _ => true | _ => false)
  | .own c => some (match a with | .obj d _ => d == c | _ => false)
  | .exc cs zs => match a with
    | .err c _ => some (cs.contains c)
    | .er0 c => some (zs.contains c)
    | _ => none
def truth : D → Option Bool
  | .bl b => some b
  | _ => none
def bnd (x : Option R) (f : D → Mode → Option Pu → Option R) : Option R := match x with
  | some (.ok d m P) => f d m P
  | some (.exc c o d P) => some (.exc c o d P)
  | none => none
def bndL (x : Option RL) (f : List D → Option Pu → Option R) : Option R := match x with
  | some (.ok ds P) => f ds P
  | some (.exc c o d P) => some (.exc c o d P)
  | none => none
def rok (x : Option (D × Mode)) (P : Option Pu) : Option R := match x with
  | some (d, m) => some (.ok d m P)
  | none => none
def rco (x : Option D) (P : Option Pu) : Option R := match x with
  | some d => some (.ok d .cold P)
  | none => none
def rbl (x : Option Bool) (P : Option Pu) : Option R := match x with
  | some b => some (.ok (.bl b) .cold P)
  | none => none
def wipeS (ρ : Sl) : List Nat → Sl
  | [] => ρ
  | v :: vs => (wipeS ρ vs).set v .no
def setAll : Sl → List Nat → List D → Option Sl
  | ρ, [], [] => some ρ
  | ρ, i :: is, d :: ds => setAll (ρ.set i (.cold d)) is ds
  | _, _, _ => none
def Tg.put (tg : Tg) (x : D) (ρ : Sl) : Option Sl := match tg with
  | .one i => some (ρ.set i (.cold x))
  | .many is => match x with
    | .tup ds => setAll ρ is ds
    | _ => none
/-- the turns of a comprehension: f makes an item, or none -/
def turns (f : D → Option Pu → Option (Option D × Option Pu)) : List D → Option Pu → List D → Option (List D × Option Pu)
  | [], P, acc => some (acc, P)
  | x :: xs, P, acc => match f x P with
    | some (some d, P') => turns f xs P' (acc ++ [d])
    | some (none, P') => turns f xs P' acc
    | none => none
def itemsOf : D → Option (List D)
  | .lst xs => some xs
  | .tup xs => some xs
  | .str x => if x.length ≤ LIM then some (x.cps.toList.map fun c => .str ⟨#[c]⟩) else none
  | _ => none
def upTo (lo : Int) : Nat → List D
  | 0 => []
  | n + 1 => .int lo :: upTo (lo + 1) n
section
variable (C : Calls)
mutual
def evalE : E → Sl → Option Pu → Option R
  | .omit, _, P => some (.ok .non .cold P)
  | .var i, ρ, P => match rget ρ i with
    | some (d, m) => some (.ok d m P)
    | none => none
  | .cst d, _, P => some (.ok d .cold P)
  | .lst es, ρ, P => bndL (evalEs es ρ P) fun ds P => if ds.length ≤ LIM then some (.ok (.lst ds) .fresh P) else none
  | .tup es, ρ, P => bndL (evalEs es ρ P) fun ds P => if ds.length ≤ LIM then some (.ok (.tup ds) .cold P) else none
  | .neg a, ρ, P => bnd (evalE a ρ P) fun d _ P => match d with
    | .int i => some (.ok (.int (-i)) .cold P)
    | _ => none
  | .not a, ρ, P => bnd (evalE a ρ P) fun d _ P => match truth d with
    | some b => some (.ok (.bl (!b)) .cold P)
    | none => none
  | .bin o a b, ρ, P => bnd (evalE a ρ P) fun x _ P => bnd (evalE b ρ P) fun y _ P => rok (binD o x y) P
  | .cmp o a b, ρ, P => bnd (evalE a ρ P) fun x m P => bnd (evalE b ρ P) fun y _ P => rbl (cmpM o m x y) P
  | .chn o p a b c, ρ, P => bnd (evalE a ρ P) fun x m P => bnd (evalE b ρ P) fun y n P => match cmpM o m x y with
    | some true => bnd (evalE c ρ P) fun z _ P => rbl (cmpM p n y z) P
    | some false => some (.ok (.bl false) .cold P)
    | none => none
  | .and a b, ρ, P => bnd (evalE a ρ P) fun x _ P => match truth x with
    | some true => evalE b ρ P
    | some false => some (.ok (.bl false) .cold P)
    | none => none
  | .or a b, ρ, P => bnd (evalE a ρ P) fun x _ P => match truth x with
    | some true => some (.ok (.bl true) .cold P)
    | some false => evalE b ρ P
    | none => none
  | .ife c a b, ρ, P => bnd (evalE c ρ P) fun x _ P => match truth x with
    | some true => evalE a ρ P
    | some false => evalE b ρ P
    | none => none
  | .sub a i, ρ, P => bnd (evalE a ρ P) fun x _ P => bnd (evalE i ρ P) fun y m P => rco (subM m P x y) P
  | .slc a l h, ρ, P => bnd (evalE a ρ P) fun x _ P => bnd (evalE l ρ P) fun y _ P => match bndD l.isOmit y with
    | some lo => bnd (evalE h ρ P) fun z _ P => match bndD h.isOmit z with
      | some hi => rok (slcD x lo hi) P
      | none => none
    | none => none
  | .call f es, ρ, P => bndL (evalEs es ρ P) fun ds P => reO es (C f ds P)
  | .mke c a, ρ, P => match evalE a ρ P with
    | some (.ok _ .bor _) => none
    | some (.ok d _ P) => some (.ok (.err c d) .cold P)
    | r => r
  | .mkz c, _, P => some (.ok (.er0 c) .cold P)
  | .dnew, _, P => some (.ok (.dct []) .fresh P)
  | .dsp es, ρ, P => bndL (evalEs es ρ P) fun ds P => match mkD ds [] with
    | some kvs => if ds.length ≤ 30 then some (.ok (.dct kvs) .fresh P) else none
    | none => none
  | .vlu a, ρ, P => bnd (evalE a ρ P) fun x _ P => match x with
    | .err _ d => some (.ok d .cold P)
    | _ => none
  | .bi b a, ρ, P => bnd (evalE a ρ P) fun x m P => rok (biM b m x) P
  | .bi2 b a c, ρ, P => bnd (evalE a ρ P) fun x _ P => bnd (evalE c ρ P) fun y _ P => rco (bi2D b x y) P
  | .bm m a, ρ, P => bnd (evalE a ρ P) fun x _ P => rok (bmD m x) P
  | .bm1 m a c, ρ, P => bnd (evalE a ρ P) fun x _ P => if recv m x then bnd (evalE c ρ P) fun y _ P => rok (bm1D m x y) P else none
  | .isi a t, ρ, P => bnd (evalE a ρ P) fun x _ P => rbl (isiD x t) P
  | .lc tg it el, ρ, P => bndL (evalIt it ρ P) fun xs P =>
    match turns (fun x P => match tg.put x (wipeS ρ tg.slots) with
      | some ρx => match evalE el ρx P with
        | some (.ok d .bor _) => none
        | some (.ok d _ P') => some (some d, P')
        | _ => none
      | none => none) xs P [] with
    | some (ds, P') => some (.ok (.lst ds) .fresh P')
    | none => none
  | .lcif tg it c el, ρ, P => bndL (evalIt it ρ P) fun xs P =>
    match turns (fun x P => match tg.put x (wipeS ρ tg.slots) with
      | some ρx => match evalE c ρx P with
        | some (.ok (.bl true) _ P') => match evalE el ρx P' with
          | some (.ok d .bor _) => none
          | some (.ok d _ P'') => some (some d, P'')
          | _ => none
        | some (.ok (.bl false) _ P') => some (none, P')
        | _ => none
      | none => none) xs P [] with
    | some (ds, P') => some (.ok (.lst ds) .fresh P')
    | none => none
def evalEs : Es → Sl → Option Pu → Option RL
  | .nil, _, P => some (.ok [] P)
  | .cons e r, ρ, P => match evalE e ρ P with
    | some (.ok _ .bor _) => none
    | some (.ok d _ P) => match evalEs r ρ P with
      | some (.ok ds P) => some (.ok (d :: ds) P)
      | some (.exc c o d P) => some (.exc c o d P)
      | none => none
    | some (.exc c o d P) => some (.exc c o d P)
    | none => none
def evalIt : It → Sl → Option Pu → Option RL
  | .val e, ρ, P => match evalE e ρ P with
    | some (.ok d _ P) => match itemsOf d with
      | some xs => if xs.length ≤ LIM then some (.ok xs P) else none
      | none => none
    | some (.exc c o d P) => some (.exc c o d P)
    | none => none
  | .rng a, ρ, P => match evalE a ρ P with
    | some (.ok (.int n) _ P) => if n ≤ LIM ∧ -LIM ≤ n then some (.ok (upTo 0 n.toNat) P) else none
    | some (.exc c o d P) => some (.exc c o d P)
    | _ => none
  | .rng2 a b, ρ, P => match evalE a ρ P with
    | some (.ok (.int lo) _ P) => match evalE b ρ P with
      | some (.ok (.int hi) _ P) => if (-LIM ≤ lo ∧ lo ≤ LIM) ∧ (-LIM ≤ hi ∧ hi ≤ LIM) ∧ (hi - lo).toNat ≤ LIM then some (.ok (upTo lo (hi - lo).toNat) P) else none
      | some (.exc c o d P) => some (.exc c o d P)
      | _ => none
    | some (.exc c o d P) => some (.exc c o d P)
    | _ => none
end
end
/-! ### statements -/
mutual
inductive S where
  | set (i : Nat) (e : E)
  | unp (is : List Nat) (e : E)
  | exp (e : E)
  | put (i : Nat) (k v : E)
  | ppu (i : Nat) (k : Nat) (v : E)
  | app (i : Nat) (e : E)
  | ret (e : E)
  | retN
  | ife (c : E) (a b : Ss)
  | forr (tg : Tg) (it : It) (b : Ss)
  | rais (c : Nat) (e : E)
  | pass
inductive Ss where
  | nil | cons (s : S) (r : Ss)
end
inductive O where
  | next (ρ : Sl) (P : Option Pu)
  | ret (d : D) (m : Mode) (P : Option Pu)
  | exc (c : Nat) (o : Option Nat) (d : D) (P : Option Pu)
def obnd (x : Option R) (f : D → Mode → Option Pu → Option O) : Option O := match x with
  | some (.ok d m P) => f d m P
  | some (.exc c o d P) => some (.exc c o d P)
  | none => none
def slotOf (d : D) (m : Mode) : Option Slot := match m with
  | .cold => some (.cold d)
  | .fresh => some (.own d)
  | .bor => none
def Pu.put (P : Pu) (k : Nat) (i : Int) : Pu := match k with
  | 0 => { P with a := i }
  | 1 => { P with b := i }
  | 2 => { P with c := i }
  | _ => { P with d := i }
/-- a slot that is walked by a for is told from then on -/
def frz (it : It) (ρ : Sl) : Sl := match it with
  | .val (.var i) => match ρ[i]? with
    | some (.own d) => ρ.set i (.cold d)
    | _ => ρ
  | _ => ρ
def evalItF (C : Calls) : It → Sl → Option Pu → Option RL
  | .val e, ρ, P => match evalE C e ρ P with
    | some (.ok _ .bor _) => none
    | some (.ok d _ P) => match itemsOf d with
      | some xs => if xs.length ≤ LIM then some (.ok xs P) else none
      | none => none
    | some (.exc c o d P) => some (.exc c o d P)
    | none => none
  | it, ρ, P => evalIt C it ρ P
def forGo (f : D → Sl → Option Pu → Option O) : List D → Sl → Option Pu → Option O
  | [], ρ, P => some (.next ρ P)
  | x :: xs, ρ, P => match f x ρ P with
    | some (.next ρ' P') => forGo f xs ρ' P'
    | r => r
section
variable (C : Calls)
mutual
def exec : S → Sl → Option Pu → Option O
  | .set i e, ρ, P => obnd (evalE C e ρ P) fun d m P => match slotOf d m with
    | some s => some (.next (ρ.set i s) P)
    | none => none
  | .unp is e, ρ, P => obnd (evalE C e ρ P) fun d m P => match m with
    | .bor => none
    | _ => match d with
      | .tup ds => match setAll ρ is ds with
        | some ρ' => some (.next ρ' P)
        | none => none
      | _ => none
  | .exp e, ρ, P => obnd (evalE C e ρ P) fun _ _ P => some (.next ρ P)
  | .put i k v, ρ, P => obnd (evalE C v ρ P) fun dv mv P => match mv with
    | .bor => none
    | _ => match ρ[i]? with
      | some (.own (.dct kvs)) => obnd (evalE C k ρ P) fun dk mk P => match mk with
        | .bor => none
        | _ => match dk.kd with
          | some q => if homog q kvs && decide (kvs.length < LIM) then some (.next (ρ.set i (.own (.dct (putKv q dk dv kvs)))) P) else none
          | none => none
      | _ => none
  | .ppu i k v, ρ, P => obnd (evalE C v ρ P) fun dv _ P => match ρ[i]? with
    | some (.cold .pur) => match dv with
      | .int z => match P with
        | some p => if k < 4 then some (.next ρ (some (p.put k z))) else none
        | none => none
      | _ => none
    | _ => none
  | .app i e, ρ, P => match ρ[i]? with
    | some (.own (.lst xs)) => if xs.length < LIM then obnd (evalE C e ρ P) fun d m P => match m with
        | .bor => none
        | _ => some (.next (ρ.set i (.own (.lst (xs ++ [d])))) P)
      else none
    | _ => none
  | .ret e, ρ, P => obnd (evalE C e ρ P) fun d m P => match m with
    | .bor => match e with
      | .var _ => some (.ret d .fresh P)
      | _ => none
    | m => some (.ret d m P)
  | .retN, _, P => some (.ret .non .cold P)
  | .ife c a b, ρ, P => obnd (evalE C c ρ P) fun x _ P => match truth x with
    | some true => execs a ρ P
    | some false => execs b ρ P
    | none => none
  | .forr tg it b, ρ, P => match evalItF C it (frz it ρ) P with
    | some (.ok xs P) => forGo (fun x ρ P => match tg.put x ρ with
      | some ρ' => execs b ρ' P
      | none => none) xs (frz it ρ) P
    | some (.exc c o d P) => some (.exc c o d P)
    | none => none
  | .rais c e, ρ, P => obnd (evalE C e ρ P) fun d m P => match m with
    | .bor => none
    | _ => some (.exc c (match e with | .var i => some i | _ => none) d P)
  | .pass, ρ, P => some (.next ρ P)
def execs : Ss → Sl → Option Pu → Option O
  | .nil, ρ, P => some (.next ρ P)
  | .cons s r, ρ, P => match exec s ρ P with
    | some (.next ρ' P') => execs r ρ' P'
    | x => x
end
end
/-- a def: how many parameters, how many slots in all, its body -/
structure Fd where
  np : Nat
  ns : Nat
  fix : Bool
  body : Ss
def startS (ns : Nat) (ds : List D) : Sl := ds.map .cold ++ List.replicate (ns - ds.length) .no
def runFd (C : Calls) (f : Fd) (ds : List D) (P : Option Pu) : Option R :=
  if ds.length = f.np then match execs C f.body (startS f.ns ds) P with
    | some (.next _ P) => some (.ok .non .cold P)
    | some (.ret d m P) => some (.ok d m P)
    | some (.exc c o d P) => some (.exc c (if f.fix then match o with
      | some i => if i < f.np then some i else none
      | none => none else none) d P)
    | none => none
  else none
/-- the table's defs, so many calls deep -/
def calls (tab : Nat → Option Fd) : Nat → Calls
  | 0 => fun _ _ _ => none
  | k + 1 => fun f ds P => match tab f with
    | some fd => runFd (calls tab k) fd ds P
    | none => none
end B


/-! How deep data stand in the heap. -/
namespace B
open PySem PySem.Spec L2

/-- where classes and defs stand; a class's fields in the order in which they are made -/
structure Tb where
  nc : Nat
  cls : Nat → Addr
  flds : Nat → List Str
  fad : Nat → Addr
  raw : V
  ne : Nat
  ecl : Nat → Addr
  nz : Nat
  zcl : Nat → Addr
/-- what is told once for all (a part of the heap), and where the purse lies -/
structure Gh where
  Hf : Hp
  p : Option Addr
section
variable (T : Tb) (K : PySem.W.Frag) (G : Gh)
mutual
def Rep : D → V → Prop
  | .non, v => v = .non
  | .bl b, v => v = .bl b
  | .int i, v => v = .int i
  | .str x, v => v = .str x
  | .tup ds, v => ∃ a vs, v = .ref a ∧ G.Hf a = some (.tup vs) ∧ RepL ds vs
  | .lst ds, v => ∃ a vs, v = .ref a ∧ G.Hf a = some (.lst vs) ∧ RepL ds vs
  | .dct kvs, v => ∃ a, v = .ref a ∧ ((∃ ks, G.Hf a = some (.dK ks) ∧ RepK kvs ks) ∨ ∃ ks, G.Hf a = some (.dT ks) ∧ RepT kvs ks)
  | .obj c ds, v => ∃ a dx fs, v = .ref a ∧ c < T.nc ∧ G.Hf a = some (.ins (T.cls c) dx fs) ∧ fs.map (·.1) = T.flds c ∧ RepL ds (fs.map (·.2))
  | .pur, v => ∃ a, G.p = some a ∧ v = .ref a
  | .fn g, v => v = .ref (T.fad g)
  | .err c d, v => ∃ a dx w, v = .ref a ∧ c < T.ne ∧ G.Hf a = some (exo a (T.ecl c) (some dx)) ∧ G.Hf dx = some (exd dx [("value", w)]) ∧ Rep d w
  | .raw, v => v = T.raw
  | .er0 c, v => ∃ a, v = .ref a ∧ c < T.nz ∧ G.Hf a = some (exo a (T.zcl c) none)
def RepL : List D → List V → Prop
  | [], vs => vs = []
  | d :: ds, vs => ∃ v r, vs = v :: r ∧ Rep d v ∧ RepL ds r
def RepK : List (D × D) → List (Key × V) → Prop
  | [], ks => ks = []
  | (k, d) :: r, ks => ∃ q v t, ks = (q, v) :: t ∧ k.k1 = some q ∧ Rep d v ∧ RepK r t
def RepT : List (D × D) → List (List Key × V) → Prop
  | [], ks => ks = []
  | (k, d) :: r, ks => ∃ q v t, ks = (q, v) :: t ∧ k.kd = some (.inr q) ∧ Rep d v ∧ RepT r t
end
end
section
variable {T : Tb} {K : PySem.W.Frag} {G G' : Gh}
theorem Rd_mono {H H' : Hp} {a : Addr} {u : HO} (e : Same H H') (h : Rd H a u) : Rd H' a u := h.elim (fun h => .inl (e _ _ h)) fun ⟨o, h⟩ => .inr ⟨o, e _ _ h⟩
theorem SqT_mono {H H' : Hp} {a : Addr} {xs : List V} (e : Same H H') (h : SqT K H a xs) : SqT K H' a xs := by
  rcases h with (h | ⟨o, h⟩) | h
  · exact .inl (.inl (e _ _ h))
  · exact .inl (.inr ⟨o, e _ _ h⟩)
  · exact .inr h
mutual
theorem Rep.mono (s : Same G.Hf G'.Hf) (hp : G'.p = G.p) : ∀ (d : D) {v : V}, Rep T G d v → Rep T G' d v
  | .non, v, h => h
  | .bl b, v, h => h
  | .int i, v, h => h
  | .str x, v, h => h
  | .tup ds, v, h => by
    unfold Rep at h ⊢
    obtain ⟨a, vs, e, q, r⟩ := h
    exact ⟨a, vs, e, s _ _ q, RepL.mono s hp ds r⟩
  | .lst ds, v, h => by
    unfold Rep at h ⊢
    obtain ⟨a, vs, e, q, r⟩ := h
    exact ⟨a, vs, e, s _ _ q, RepL.mono s hp ds r⟩
  | .dct kvs, v, h => by
    unfold Rep at h ⊢
    obtain ⟨a, e, ⟨ks, q, r⟩ | ⟨ks, q, r⟩⟩ := h
    · exact ⟨a, e, .inl ⟨ks, s _ _ q, RepK.mono s hp kvs r⟩⟩
    · exact ⟨a, e, .inr ⟨ks, s _ _ q, RepT.mono s hp kvs r⟩⟩
  | .obj c ds, v, h => by
    unfold Rep at h ⊢
    obtain ⟨a, dx, fs, e, hc, q, n, r⟩ := h
    exact ⟨a, dx, fs, e, hc, s _ _ q, n, RepL.mono s hp ds r⟩
  | .pur, v, h => by
    unfold Rep at h ⊢
    rw [hp]
    exact h
  | .fn g, v, h => h
  | .err c d, v, h => by
    unfold Rep at h ⊢
    obtain ⟨a, dx, w, e, hc, h1, h2, r⟩ := h
    exact ⟨a, dx, w, e, hc, s _ _ h1, s _ _ h2, Rep.mono s hp d r⟩
  | .raw, v, h => h
  | .er0 c, v, h => by
    unfold Rep at h ⊢
    obtain ⟨a, e, hc, h1⟩ := h
    exact ⟨a, e, hc, s _ _ h1⟩
theorem RepL.mono (s : Same G.Hf G'.Hf) (hp : G'.p = G.p) : ∀ (ds : List D) {vs : List V}, RepL T G ds vs → RepL T G' ds vs
  | [], vs, h => h
  | d :: ds, vs, h => by
    unfold RepL at h ⊢
    obtain ⟨v, r, e, h1, h2⟩ := h
    exact ⟨v, r, e, Rep.mono s hp d h1, RepL.mono s hp ds h2⟩
theorem RepK.mono (s : Same G.Hf G'.Hf) (hp : G'.p = G.p) : ∀ (ds : List (D × D)) {vs : List (Key × V)}, RepK T G ds vs → RepK T G' ds vs
  | [], vs, h => h
  | (k, d) :: ds, vs, h => by
    unfold RepK at h ⊢
    obtain ⟨q, v, r, e, e2, h1, h2⟩ := h
    exact ⟨q, v, r, e, e2, Rep.mono s hp d h1, RepK.mono s hp ds h2⟩
theorem RepT.mono (s : Same G.Hf G'.Hf) (hp : G'.p = G.p) : ∀ (ds : List (D × D)) {vs : List (List Key × V)}, RepT T G ds vs → RepT T G' ds vs
  | [], vs, h => h
  | (k, d) :: ds, vs, h => by
    unfold RepT at h ⊢
    obtain ⟨q, v, r, e, e2, h1, h2⟩ := h
    exact ⟨q, v, r, e, e2, Rep.mono s hp d h1, RepT.mono s hp ds h2⟩
end
end

/-! ### the purse, what a step leaves as it was, how a frame's slots stand -/
def puVs (P : Pu) : List V := [.int P.a, .int P.b, .int P.c, .int P.d]
def PuOk (G : Gh) (P : Option Pu) (H : Hp) : Prop := match G.p, P with
  | none, none => True
  | some a, some P => H a = some (.lst (puVs P)) ∧ G.Hf a = none
  | _, _ => False
structure Ext (G : Gh) (H : Hp) (G' : Gh) (H' : Hp) : Prop where
  hf : Same G.Hf G'.Hf
  p : G'.p = G.p
  sub : Same G'.Hf H'
  new : ∀ b o, G'.Hf b = some o → G.Hf b = some o ∨ H b = none
  keep : ∀ b o, H b = some o → G.p ≠ some b → H' b = some o
theorem PuOk.at {G : Gh} {P : Option Pu} {H : Hp} (h : PuOk G P H) {a : Addr} (e : G.p = some a) : ∃ q, P = some q ∧ H a = some (.lst (puVs q)) ∧ G.Hf a = none := by
  unfold PuOk at h
  rw [e] at h
  cases P with
  | none => exact h.elim
  | some q => exact ⟨q, rfl, h⟩
theorem PuOk.no {G : Gh} {P : Option Pu} {H : Hp} (h : PuOk G P H) (e : G.p = none) : P = none := by
  unfold PuOk at h
  rw [e] at h
  cases P with
  | none => rfl
  | some q => exact h.elim
theorem PuOk.mk {G : Gh} {P : Option Pu} {H : Hp} (h : ∀ a, G.p = some a → ∃ q, P = some q ∧ H a = some (.lst (puVs q)) ∧ G.Hf a = none) (h0 : G.p = none → P = none) : PuOk G P H := by
  unfold PuOk
  cases e : G.p with
  | none => rw [h0 e]; trivial
  | some a => obtain ⟨q, e1, e2⟩ := h a e; rw [e1]; exact e2
/-- what is not tracked behind was not ahead -/
theorem Ext.back {G G' : Gh} {H H' : Hp} {P : Option Pu} (x : Ext G H G' H') (pu : PuOk G' P H') {b : Addr} (n : H' b = none) : H b = none := by
  cases q : H b with
  | none => rfl
  | some o =>
    by_cases hp : G.p = some b
    · obtain ⟨_, _, z, _⟩ := pu.at (x.p.trans hp)
      rw [n] at z
      cases z
    · rw [x.keep b o q hp] at n
      cases n
theorem Ext.refl {G : Gh} {H : Hp} (s : Same G.Hf H) : Ext G H G H := ⟨Same.refl _, rfl, s, fun _ _ h => .inl h, fun _ _ h _ => h⟩
theorem Ext.trans {G G1 G2 : Gh} {H H1 H2 : Hp} {P : Option Pu} (x : Ext G H G1 H1) (pu : PuOk G1 P H1) (y : Ext G1 H1 G2 H2) : Ext G H G2 H2 where
  hf := x.hf.trans y.hf
  p := y.p.trans x.p
  sub := y.sub
  new := fun b o h => by
    rcases y.new b o h with h | h
    · exact x.new b o h
    · exact .inr (x.back pu h)
  keep := fun b o h n => y.keep b o (x.keep b o h n) (by rw [x.p]; exact n)
section
variable (T : Tb) (K : PySem.W.Frag)
/-- a list or dict that stands by itself at a, its items told -/
def Top (G : Gh) (H : Hp) (d : D) (a : Addr) : Prop := match d with
  | .lst ds => ∃ vs, H a = some (.lst vs) ∧ RepL T G ds vs
  | .dct kvs => (∃ ks, H a = some (.dK ks) ∧ RepK T G kvs ks) ∨ ∃ ks, H a = some (.dT ks) ∧ RepT T G kvs ks
  | _ => False
/-- a tuple of the written part -/
def KTup (K : PySem.W.Frag) (a : Addr) (vs : List V) : Prop := ∃ (o : Obj) (its : Array Value) (n : Nat), K.lookup a = some o ∧ o.cls = .type "tuple" ∧ o.data = .seq its n ∧ its.size ≤ sizeLine ∧ Vals vs its.toList
def RRes (H0 : Hp) (G : Gh) (H : Hp) (d : D) (v : V) : Mode → Prop
  | .cold => Rep T G d v
  | .fresh => ∃ a, v = .ref a ∧ G.Hf a = none ∧ G.p ≠ some a ∧ H0 a = none ∧ Top T G H d a
  | .bor => ∃ a, v = .ref a ∧ ((G.p ≠ some a ∧ Top T G H d a) ∨ ∃ ds vs, d = .tup ds ∧ KTup K a vs ∧ RepL T G ds vs)
structure StOk (Hen : Hp) (G : Gh) (P : Option Pu) (H : Hp) (σ : St) (ρ : Sl) : Prop where
  sub : Same G.Hf H
  pu : PuOk G P H
  len : ρ.length = σ.length
  cold : ∀ (i : Nat) d, ρ[i]? = some (.cold d) → ∃ v, σ[i]? = some (some v) ∧ Rep T G d v
  own : ∀ (i : Nat) d, ρ[i]? = some (.own d) → ∃ a, σ[i]? = some (some (.ref a)) ∧ G.Hf a = none ∧ G.p ≠ some a ∧ Hen a = none ∧ Top T G H d a
  dist : ∀ (i j : Nat) d e a, ρ[i]? = some (.own d) → ρ[j]? = some (.own e) → σ[i]? = some (some (.ref a)) → σ[j]? = some (some (.ref a)) → i = j
  ent : ∀ b, H b = none → Hen b = none
/-- what is wanted of a result: Q of a value, W of what is raised -/
def Kont (W : WX) (G : Gh) (H : Hp) (σ : St) (r : R) (Q : VK) : Prop := match r with
  | .ok d m P => ∀ v G' H', Ext G H G' H' → PuOk G' P H' → RRes T K H G' H' d v m → Q v H'
  | .exc c o d P => ∀ v dd G' H', Ext G H G' H' → PuOk G' P H' → Rep T G' d v → H' dd = some (.xd [("value", v)]) → H dd = none → (∀ i, o = some i → σ[i]? = some (some v)) → W (.ref (T.ecl c)) (some dd) σ H'
def KontL (W : WX) (G : Gh) (H : Hp) (σ : St) (as : Es) (r : RL) (Q : List V → Hp → Prop) : Prop := match r with
  | .ok ds P => ∀ vs G' H', Ext G H G' H' → PuOk G' P H' → RepL T G' ds vs → (∀ j i, argV as j = some i → ∃ v, vs[j]? = some v ∧ σ[i]? = some (some v)) → Q vs H'
  | .exc c o d P => ∀ v dd G' H', Ext G H G' H' → PuOk G' P H' → Rep T G' d v → H' dd = some (.xd [("value", v)]) → H dd = none → (∀ i, o = some i → σ[i]? = some (some v)) → W (.ref (T.ecl c)) (some dd) σ H'
end
section
variable {T : Tb} {K : PySem.W.Frag} {W : WX} {Hen : Hp} {G G1 G2 : Gh} {P P1 : Option Pu} {H H1 H2 : Hp} {σ : St} {ρ : Sl}
theorem Top.mono {d : D} {a : Addr} (h : Top T G H d a) (s : Same G.Hf G1.Hf) (hp : G1.p = G.p) (e : ∀ o, H a = some o → H1 a = some o) : Top T G1 H1 d a := by
  cases d with
  | lst ds => obtain ⟨vs, q, r⟩ := h; exact ⟨vs, e _ q, RepL.mono s hp ds r⟩
  | dct kvs =>
    rcases h with ⟨ks, q, r⟩ | ⟨ks, q, r⟩
    · exact .inl ⟨ks, e _ q, RepK.mono s hp kvs r⟩
    · exact .inr ⟨ks, e _ q, RepT.mono s hp kvs r⟩
  | _ => exact h.elim
theorem Top.there {d : D} {a : Addr} (h : Top T G H d a) : ∃ o, H a = some o := by
  cases d with
  | lst ds => obtain ⟨vs, q, r⟩ := h; exact ⟨_, q⟩
  | dct kvs =>
    rcases h with ⟨ks, q, r⟩ | ⟨ks, q, r⟩
    · exact ⟨_, q⟩
    · exact ⟨_, q⟩
  | _ => exact h.elim
theorem StOk.ext (S : StOk T Hen G P H σ ρ) (x : Ext G H G1 H1) (pu : PuOk G1 P1 H1) : StOk T Hen G1 P1 H1 σ ρ where
  sub := x.sub
  pu := pu
  len := S.len
  cold := fun i d e => by
    obtain ⟨v, e1, r⟩ := S.cold i d e
    exact ⟨v, e1, Rep.mono x.hf x.p d r⟩
  own := fun i d e => by
    obtain ⟨a, e1, n, np, ne, t⟩ := S.own i d e
    obtain ⟨o, ho⟩ := t.there
    refine ⟨a, e1, ?_, by rw [x.p]; exact np, ne, t.mono x.hf x.p fun o e => x.keep a o e np⟩
    cases q : G1.Hf a with
    | none => rfl
    | some u =>
      rcases x.new a u q with z | z
      · rw [n] at z; cases z
      · rw [ho] at z; cases z
  dist := S.dist
  ent := fun b n => S.ent b (x.back pu n)
theorem RRes.later {H0 H00 : Hp} {d : D} {v : V} {m : Mode} (h : RRes T K H0 G H d v m) (b : ∀ a, H0 a = none → H00 a = none) : RRes T K H00 G H d v m := by
  cases m with
  | cold => exact h
  | fresh => obtain ⟨a, e, h1, h2, h3, h4⟩ := h; exact ⟨a, e, h1, h2, b a h3, h4⟩
  | bor => exact h
theorem Kont.step {r : R} {Q : VK} (k : Kont T K W G H σ r Q) (x : Ext G H G1 H1) (pu : PuOk G1 P1 H1) : Kont T K W G1 H1 σ r Q := by
  cases r with
  | ok d m P => exact fun v G' H' x' pu' rr => k v G' H' (x.trans pu x') pu' (rr.later fun a n => x.back pu n)
  | exc c o d P => exact fun v dd G' H' x' pu' rr e n ho => k v dd G' H' (x.trans pu x') pu' rr e (x.back pu n) ho
/-- a fresh one is told: it joins what is told -/
theorem RRes.freeze {H0 : Hp} {d : D} {v : V} {m : Mode} (sub : Same G.Hf H) (hm : m ≠ .bor) (pu : PuOk G P H) (h : RRes T K H0 G H d v m) (hb : ∀ a, H0 a = none → True) :
    ∃ G', G'.p = G.p ∧ Same G.Hf G'.Hf ∧ Same G'.Hf H ∧ (∀ b o, G'.Hf b = some o → G.Hf b = some o ∨ H0 b = none) ∧ PuOk G' P H ∧ Rep T G' d v := by
  cases m with
  | bor => exact absurd rfl hm
  | cold => exact ⟨G, rfl, Same.refl _, sub, fun _ _ h => .inl h, pu, h⟩
  | fresh =>
    obtain ⟨a, e, n, np, h0, t⟩ := h
    obtain ⟨o, ho⟩ := t.there
    have s1 : Same G.Hf (upd G.Hf a o) := fun b u q => by rw [upd_ne (ne_of_none q n)]; exact q
    refine ⟨⟨upd G.Hf a o, G.p⟩, rfl, s1, fun b u q => ?_, fun b u q => ?_, ?_, ?_⟩
    · have q : upd G.Hf a o b = some u := q
      by_cases hb : b = a
      · rw [hb, upd_same] at q; cases q; rw [hb]; exact ho
      · rw [upd_ne hb] at q; exact sub _ _ q
    · have q : upd G.Hf a o b = some u := q
      by_cases hb : b = a
      · rw [hb]; exact .inr h0
      · rw [upd_ne hb] at q; exact .inl q
    · refine PuOk.mk (fun b hb => ?_) fun hb => pu.no hb
      obtain ⟨q, e1, e2, e3⟩ := pu.at (a := b) hb
      exact ⟨q, e1, e2, by show upd G.Hf a o b = none; rw [upd_ne fun z => np (by rw [← z]; exact hb)]; exact e3⟩
    · subst e
      cases d with
      | lst ds =>
        obtain ⟨vs, q, r⟩ := t
        rw [ho] at q
        cases q
        unfold Rep
        exact ⟨a, vs, rfl, upd_same, RepL.mono (G' := ⟨upd G.Hf a (.lst vs), G.p⟩) s1 rfl ds r⟩
      | dct kvs =>
        unfold Rep
        rcases t with ⟨ks, q, r⟩ | ⟨ks, q, r⟩
        · rw [ho] at q
          cases q
          exact ⟨a, rfl, .inl ⟨ks, upd_same, RepK.mono (G' := ⟨upd G.Hf a (.dK ks), G.p⟩) s1 rfl kvs r⟩⟩
        · rw [ho] at q
          cases q
          exact ⟨a, rfl, .inr ⟨ks, upd_same, RepT.mono (G' := ⟨upd G.Hf a (.dT ks), G.p⟩) s1 rfl kvs r⟩⟩
      | _ => exact t.elim
/-- what may be read of a list's result -/
theorem RRes.list {H0 : Hp} {ds : List D} {v : V} {m : Mode} (sub : Same G.Hf H) (h : RRes T K H0 G H (.lst ds) v m) : ∃ a vs, v = .ref a ∧ Rd H a (.lst vs) ∧ RepL T G ds vs := by
  cases m with
  | cold => unfold RRes Rep at h; obtain ⟨a, vs, e, q, r⟩ := h; exact ⟨a, vs, e, .inl (sub _ _ q), r⟩
  | fresh => obtain ⟨a, e, _, _, _, vs, q, r⟩ := h; exact ⟨a, vs, e, .inl q, r⟩
  | bor => obtain ⟨a, e, ⟨_, vs, q, r⟩ | ⟨_, _, z, _⟩⟩ := h; exact ⟨a, vs, e, .inl q, r⟩; cases z
theorem RRes.tuple {H0 : Hp} {ds : List D} {v : V} {m : Mode} (sub : Same G.Hf H) (h : RRes T K H0 G H (.tup ds) v m) : ∃ a vs, v = .ref a ∧ SqT K H a vs ∧ RepL T G ds vs := by
  cases m with
  | cold => unfold RRes Rep at h; obtain ⟨a, vs, e, q, r⟩ := h; exact ⟨a, vs, e, SqT.of (sub _ _ q), r⟩
  | fresh => obtain ⟨a, e, _, _, _, t⟩ := h; exact t.elim
  | bor => obtain ⟨a, e, ⟨_, t⟩ | ⟨es, vs, z, q, r⟩⟩ := h; exact t.elim; cases z; exact ⟨a, vs, e, .inr q, r⟩
theorem RRes.int {H0 : Hp} {i : Int} {v : V} {m : Mode} (h : RRes T K H0 G H (.int i) v m) : v = .int i := by
  cases m with
  | cold => unfold RRes Rep at h; exact h
  | fresh => obtain ⟨a, e, _, _, _, t⟩ := h; exact t.elim
  | bor => obtain ⟨a, e, ⟨_, t⟩ | ⟨_, _, z, _⟩⟩ := h; exact t.elim; cases z
theorem RRes.bl {H0 : Hp} {b : Bool} {v : V} {m : Mode} (h : RRes T K H0 G H (.bl b) v m) : v = .bl b := by
  cases m with
  | cold => unfold RRes Rep at h; exact h
  | fresh => obtain ⟨a, e, _, _, _, t⟩ := h; exact t.elim
  | bor => obtain ⟨a, e, ⟨_, t⟩ | ⟨_, _, z, _⟩⟩ := h; exact t.elim; cases z
theorem RRes.str {H0 : Hp} {x : Str} {v : V} {m : Mode} (h : RRes T K H0 G H (.str x) v m) : v = .str x := by
  cases m with
  | cold => unfold RRes Rep at h; exact h
  | fresh => obtain ⟨a, e, _, _, _, t⟩ := h; exact t.elim
  | bor => obtain ⟨a, e, ⟨_, t⟩ | ⟨_, _, z, _⟩⟩ := h; exact t.elim; cases z
theorem RRes.non {H0 : Hp} {v : V} {m : Mode} (h : RRes T K H0 G H .non v m) : v = .non := by
  cases m with
  | cold => unfold RRes Rep at h; exact h
  | fresh => obtain ⟨a, e, _, _, _, t⟩ := h; exact t.elim
  | bor => obtain ⟨a, e, ⟨_, t⟩ | ⟨_, _, z, _⟩⟩ := h; exact t.elim; cases z
theorem RepL.length : ∀ {ds : List D} {vs : List V}, RepL T G ds vs → vs.length = ds.length
  | [], vs, h => by unfold RepL at h; rw [h]; rfl
  | d :: ds, vs, h => by
    unfold RepL at h
    obtain ⟨v, r, e, _, h2⟩ := h
    rw [e, List.length_cons, List.length_cons, RepL.length h2]
theorem RepL.get : ∀ {ds : List D} {vs : List V} {i : Nat} {d : D}, RepL T G ds vs → ds[i]? = some d → ∃ v, vs[i]? = some v ∧ Rep T G d v
  | [], vs, i, d, h, e => by simp at e
  | x :: ds, vs, i, d, h, e => by
    unfold RepL at h
    obtain ⟨v, r, ev, h1, h2⟩ := h
    subst ev
    cases i with
    | zero => simp at e; subst e; exact ⟨v, rfl, h1⟩
    | succ i => simpa using RepL.get (i := i) h2 (by simpa using e)
theorem RepL.append : ∀ {ds es : List D} {vs ws : List V}, RepL T G ds vs → RepL T G es ws → RepL T G (ds ++ es) (vs ++ ws)
  | [], es, vs, ws, h, h' => by unfold RepL at h; rw [h]; exact h'
  | x :: ds, es, vs, ws, h, h' => by
    unfold RepL at h
    obtain ⟨v, r, ev, h1, h2⟩ := h
    subst ev
    show RepL T G (x :: (ds ++ es)) (v :: (r ++ ws))
    unfold RepL
    exact ⟨v, _, rfl, h1, RepL.append h2 h'⟩
theorem RepL.one {d : D} {v : V} (h : Rep T G d v) : RepL T G [d] [v] := by
  unfold RepL
  exact ⟨v, [], rfl, h, by unfold RepL; rfl⟩
theorem RRes.ext {H0 : Hp} {d : D} {v : V} {m : Mode} {P0 : Option Pu} (h : RRes T K H0 G H d v m) (pu0 : PuOk G P0 H) (x : Ext G H G1 H1) (pu : PuOk G1 P1 H1) : RRes T K H0 G1 H1 d v m := by
  cases m with
  | cold => exact Rep.mono x.hf x.p d h
  | fresh =>
    obtain ⟨a, e, n, np, h0, t⟩ := h
    obtain ⟨o, ho⟩ := t.there
    refine ⟨a, e, ?_, by rw [x.p]; exact np, h0, t.mono x.hf x.p fun o e => x.keep a o e np⟩
    cases q : G1.Hf a with
    | none => rfl
    | some u =>
      rcases x.new a u q with z | z
      · rw [n] at z; cases z
      · rw [ho] at z; cases z
  | bor =>
    obtain ⟨a, e, ⟨np, t⟩ | ⟨ds, vs, e2, q, rr⟩⟩ := h
    · exact ⟨a, e, .inl ⟨by rw [x.p]; exact np, t.mono x.hf x.p fun o e => x.keep a o e np⟩⟩
    · exact ⟨a, e, .inr ⟨ds, vs, e2, q, RepL.mono x.hf x.p ds rr⟩⟩
end
end B


/-! The machine does what the small language says: expressions. -/
namespace B
open PySem PySem.Spec L2
theorem PE.imp {X : Cx} {e : Expr} {t t' : TE} (h : PE X e t) (i : ∀ σ H Q, t' σ H Q → t σ H Q) : PE X e t' := ⟨fun pins s σ H Q I w => h.run pins s σ H Q I (i _ _ _ w)⟩
theorem PA.imp {X : Cx} {e : List Expr} {t t' : TA} (h : PA X e t) (i : ∀ σ H Q, t' σ H Q → t σ H Q) : PA X e t' := ⟨fun pos pins s σ H Q I w => h.run pos pins s σ H Q I (i _ _ _ w)⟩
theorem PT.imp {X : Cx} {e : Expr} {t t' : TT} (h : PT X e t) (i : ∀ σ H Q, t' σ H Q → t σ H Q) : PT X e t' := ⟨fun pins s σ H Q I w => h.run pins s σ H Q I (i _ _ _ w)⟩
section
variable (T : Tb) (K : PySem.W.Frag) (W : WX) (C : Calls)
def tE (e : E) : TE := fun σ H Q => ∃ Hen G ρ P r, StOk T Hen G P H σ ρ ∧ evalE C e ρ P = some r ∧ Kont T K W G H σ r Q
def tEs (es : Es) : TA := fun σ H Q => ∃ Hen G ρ P r, StOk T Hen G P H σ ρ ∧ evalEs C es ρ P = some r ∧ KontL T W G H σ es r Q
/-- a test: the value is a bool -/
def tT (e : E) : TT := fun σ H Q => tE T K W C e σ H fun v H' => ∃ b, v = .bl b ∧ Q b H'
end
section
variable {T : Tb} {K : PySem.W.Frag} {W : WX} {C : Calls} {Hen : Hp} {G G1 : Gh} {P P1 : Option Pu} {H H1 : Hp} {σ : St} {ρ : Sl} {Q Q' : VK} {r : R}
theorem thenE {ea : E} {f : D → Mode → Option Pu → Option R} (S : StOk T Hen G P H σ ρ) (ev : bnd (evalE C ea ρ P) f = some r) (k : Kont T K W G H σ r Q)
    (next : ∀ d m P1 v G1 H1, StOk T Hen G1 P1 H1 σ ρ → RRes T K H G1 H1 d v m → Ext G H G1 H1 → f d m P1 = some r → Kont T K W G1 H1 σ r Q → Q' v H1) : tE T K W C ea σ H Q' := by
  cases e : evalE C ea ρ P with
  | none => rw [e] at ev; cases ev
  | some ra =>
    rw [e] at ev
    refine ⟨Hen, G, ρ, P, ra, S, e, ?_⟩
    cases ra with
    | exc c o d P' => cases ev; exact k
    | ok d m P' => exact fun v G' H' x pu rr => next d m P' v G' H' (S.ext x pu) rr x ev (k.step x pu)
theorem thenL {ea : Es} {f : List D → Option Pu → Option R} {Q' : List V → Hp → Prop} (S : StOk T Hen G P H σ ρ) (ev : bndL (evalEs C ea ρ P) f = some r) (k : Kont T K W G H σ r Q)
    (next : ∀ ds P1 vs G1 H1, StOk T Hen G1 P1 H1 σ ρ → RepL T G1 ds vs → (∀ j i, argV ea j = some i → ∃ v, vs[j]? = some v ∧ σ[i]? = some (some v)) → Ext G H G1 H1 → f ds P1 = some r → Kont T K W G1 H1 σ r Q → Q' vs H1) : tEs T W C ea σ H Q' := by
  cases e : evalEs C ea ρ P with
  | none => rw [e] at ev; cases ev
  | some ra =>
    rw [e] at ev
    refine ⟨Hen, G, ρ, P, ra, S, e, ?_⟩
    cases ra with
    | exc c o d P' => cases ev; exact k
    | ok d P' => exact fun vs G' H' x pu rr hv => next d P' vs G' H' (S.ext x pu) rr hv x ev (k.step x pu)
theorem Kont.done {d : D} {m : Mode} {v : V} (k : Kont T K W G H σ (.ok d m P) Q) (sub : Same G.Hf H) (pu : PuOk G P H) (h : RRes T K H G H d v m) : Q v H := k v G H (Ext.refl sub) pu h
theorem Kont.scal {d : D} {v : V} (k : Kont T K W G H σ (.ok d .cold P) Q) (S : StOk T Hen G P H σ ρ) (h : Rep T G d v) : Q v H := k.done S.sub S.pu h
theorem Kont.int {i : Int} (k : Kont T K W G H σ (.ok (.int i) .cold P) Q) (S : StOk T Hen G P H σ ρ) : Q (.int i) H := k.scal S (by unfold Rep; rfl)
theorem Kont.bl {b : Bool} (k : Kont T K W G H σ (.ok (.bl b) .cold P) Q) (S : StOk T Hen G P H σ ρ) : Q (.bl b) H := k.scal S (by unfold Rep; rfl)
theorem Kont.str {x : Str} (k : Kont T K W G H σ (.ok (.str x) .cold P) Q) (S : StOk T Hen G P H σ ρ) : Q (.str x) H := k.scal S (by unfold Rep; rfl)
theorem Kont.non (k : Kont T K W G H σ (.ok .non .cold P) Q) (S : StOk T Hen G P H σ ρ) : Q .non H := k.scal S (by unfold Rep; rfl)
theorem ext_new {p : Addr} {o : HO} (S : StOk T Hen G P H σ ρ) (n : H p = none) : Ext G H G (upd H p o) ∧ PuOk G P (upd H p o) ∧ G.Hf p = none ∧ G.p ≠ some p := by
  have nf : G.Hf p = none := S.sub.free n
  have np : G.p ≠ some p := fun z => by
    obtain ⟨_, _, q, _⟩ := S.pu.at z
    rw [n] at q
    cases q
  refine ⟨⟨Same.refl _, rfl, fun b u q => ?_, fun b u q => .inl q, fun b u q _ => ?_⟩, PuOk.mk (fun b hb => ?_) fun hb => S.pu.no hb, nf, np⟩
  · rw [upd_ne (ne_of_none q nf)]; exact S.sub _ _ q
  · rw [upd_ne (ne_of_none q n)]; exact q
  · obtain ⟨q, e1, e2, e3⟩ := S.pu.at hb
    exact ⟨q, e1, by rw [upd_ne (ne_of_none e2 n)]; exact e2, e3⟩
/-- a list made just now -/
theorem Kont.newL {ds : List D} {vs : List V} {p : Addr} (k : Kont T K W G H σ (.ok (.lst ds) .fresh P) Q) (S : StOk T Hen G P H σ ρ) (h : RepL T G ds vs) (n : H p = none) : Q (.ref p) (upd H p (.lst vs)) := by
  obtain ⟨x, pu, nf, np⟩ := ext_new (o := .lst vs) S n
  exact k _ G _ x pu ⟨p, rfl, nf, np, n, vs, upd_same, h⟩
/-- something that is told at once -/
theorem ext_newC {p : Addr} {o : HO} (S : StOk T Hen G P H σ ρ) (n : H p = none) : Ext G H ⟨upd G.Hf p o, G.p⟩ (upd H p o) ∧ PuOk ⟨upd G.Hf p o, G.p⟩ P (upd H p o) ∧ Same G.Hf (upd G.Hf p o) := by
  obtain ⟨x, pu, nf, np⟩ := ext_new (o := o) S n
  have s1 : Same G.Hf (upd G.Hf p o) := fun b u q => by rw [upd_ne (ne_of_none q nf)]; exact q
  refine ⟨⟨s1, rfl, fun b u q => ?_, fun b u q => ?_, x.keep⟩, PuOk.mk (fun b hb => ?_) fun hb => S.pu.no hb, s1⟩
  · have q : upd G.Hf p o b = some u := q
    by_cases hb : b = p
    · rw [hb, upd_same] at q; rw [hb, upd_same]; exact q
    · rw [upd_ne hb] at q ⊢; exact S.sub _ _ q
  · have q : upd G.Hf p o b = some u := q
    by_cases hb : b = p
    · rw [hb]; exact .inr n
    · rw [upd_ne hb] at q; exact .inl q
  · obtain ⟨q, e1, e2, e3⟩ := pu.at (a := b) hb
    have hb : G.p = some b := hb
    exact ⟨q, e1, e2, by show upd G.Hf p o b = none; rw [upd_ne fun z => np (by rw [← z]; exact hb)]; exact e3⟩
theorem Kont.newT {ds : List D} {vs : List V} {p : Addr} (k : Kont T K W G H σ (.ok (.tup ds) .cold P) Q) (S : StOk T Hen G P H σ ρ) (h : RepL T G ds vs) (n : H p = none) : Q (.ref p) (upd H p (.tup vs)) := by
  obtain ⟨x, pu, s1⟩ := ext_newC (o := .tup vs) S n
  refine k _ ⟨upd G.Hf p (.tup vs), G.p⟩ _ x pu ?_
  unfold RRes Rep
  exact ⟨p, vs, rfl, upd_same, RepL.mono (G' := ⟨upd G.Hf p (.tup vs), G.p⟩) s1 rfl ds h⟩
end
/-! ### names, constants, displays -/
section
variable {T : Tb} {X : Cx} {W : WX} {C : Calls}
theorem s_var {i : Nat} {x : Str} {pos : Pos} (hN : X.N[i]? = some x) (hv : Vis X.env.scope x) (hd : (x == ("__debug__" : Str)) = false) (hcd : (x == ("__classdict__" : Str)) = false) : PE X (.Name x pos) (tE T X.K W C (.var i)) := by
  refine PE.imp (pe_var hN hv hd hcd) fun σ H Q h => ?_
  obtain ⟨Hen, G, ρ, P, r, S, ev, k⟩ := h
  unfold evalE rget at ev
  cases e : ρ[i]? with
  | none => rw [e] at ev; cases ev
  | some s =>
    rw [e] at ev
    cases s with
    | no => cases ev
    | cold d =>
      cases ev
      obtain ⟨v, e1, rr⟩ := S.cold i d e
      exact ⟨v, e1, k.scal S rr⟩
    | own d =>
      cases ev
      obtain ⟨a, e1, _, np, _, t⟩ := S.own i d e
      exact ⟨.ref a, e1, k.done S.sub S.pu ⟨a, rfl, .inl ⟨np, t⟩⟩⟩
theorem s_cint {i : Int} {j pos} : PE X (.Constant (.int i) j pos) (tE T X.K W C (.cst (.int i))) := PE.imp pe_int fun σ H Q ⟨Hen, G, ρ, P, r, S, ev, k⟩ => by
  unfold evalE at ev; cases ev; exact k.int S
theorem s_cbl {i : Bool} {j pos} : PE X (.Constant (.bool i) j pos) (tE T X.K W C (.cst (.bl i))) := PE.imp pe_bl fun σ H Q ⟨Hen, G, ρ, P, r, S, ev, k⟩ => by
  unfold evalE at ev; cases ev; exact k.bl S
theorem s_cstr {i : Str} {j pos} : PE X (.Constant (.str i) j pos) (tE T X.K W C (.cst (.str i))) := PE.imp pe_str fun σ H Q ⟨Hen, G, ρ, P, r, S, ev, k⟩ => by
  unfold evalE at ev; cases ev; exact k.str S
theorem s_cnon {j pos} : PE X (.Constant .none j pos) (tE T X.K W C (.cst .non)) := PE.imp pe_non fun σ H Q ⟨Hen, G, ρ, P, r, S, ev, k⟩ => by
  unfold evalE at ev; cases ev; exact k.non S
theorem s_nil : PA X [] (tEs T W C .nil) := PA.imp pa_nil fun σ H Q ⟨Hen, G, ρ, P, r, S, ev, k⟩ => by
  unfold evalEs at ev; cases ev; exact k [] G H (Ext.refl S.sub) S.pu (by unfold RepL; rfl) fun j i z => by cases z
def E.isV : E → Bool
  | .var _ => true
  | _ => false
theorem argV_no {a : E} {as : Es} (h : a.isV = false) : argV (.cons a as) 0 = none := by
  cases a with
  | var i => cases h
  | _ => rfl
theorem s_cons {e : Expr} {es : List Expr} {a : E} {as : Es} (hav : a.isV = false) (ha : PE X e (tE T X.K W C a)) (hr : PA X es (tEs T W C as)) (hs : starEach (e :: es) X.env = (false, eval e X.env) :: starEach es X.env) :
    PA X (e :: es) (tEs T W C (.cons a as)) := by
  refine PA.imp (pa_cons ha hr hs) fun σ H Q h => ?_
  obtain ⟨Hen, G, ρ, P, r, S, ev, k⟩ := h
  unfold evalEs at ev
  cases e1 : evalE C a ρ P with
  | none => rw [e1] at ev; cases ev
  | some ra =>
    rw [e1] at ev
    refine ⟨Hen, G, ρ, P, ra, S, e1, ?_⟩
    cases ra with
    | exc c o d P' => cases ev; exact k
    | ok d m P' =>
      intro v G1 H1 x pu rr
      have hm : m ≠ .bor := fun z => by subst z; cases ev
      obtain ⟨G2, ep, s1, s2, s3, pu2, rep⟩ := rr.freeze x.sub hm pu fun _ _ => trivial
      have x2 : Ext G H G2 H1 := ⟨x.hf.trans s1, ep.trans x.p, s2, fun b o q => (s3 b o q).elim (x.new b o) .inr, x.keep⟩
      have ev : (match evalEs C as ρ P' with
        | some (.ok ds P) => some (RL.ok (d :: ds) P)
        | some (.exc c o d P) => some (.exc c o d P)
        | none => none) = some r := by
        cases m with
        | bor => exact absurd rfl hm
        | cold => exact ev
        | fresh => exact ev
      have S2 := S.ext x2 pu2
      cases e2 : evalEs C as ρ P' with
      | none => rw [e2] at ev; cases ev
      | some rs =>
        rw [e2] at ev
        refine ⟨Hen, G2, ρ, P', rs, S2, e2, ?_⟩
        cases rs with
        | exc c o d2 P2 =>
          cases ev
          exact fun w dd G3 H3 y pu3 rr3 e3 n3 ho => k w dd G3 H3 (x2.trans pu2 y) pu3 rr3 e3 (x2.back pu2 n3) ho
        | ok ds P2 =>
          cases ev
          intro vs G3 H3 y pu3 rr3 hv3
          refine k (v :: vs) G3 H3 (x2.trans pu2 y) pu3 ?_ fun j i hj => ?_
          · unfold RepL
            exact ⟨v, vs, rfl, Rep.mono y.hf y.p d rep, rr3⟩
          · cases j with
            | zero => rw [argV_no hav] at hj; cases hj
            | succ j => exact hv3 j i (by cases a <;> exact hj)
/-- an argument that is a name -/
theorem s_consV {i : Nat} {x : Str} {p : Pos} {es : List Expr} {as : Es} (hN : X.N[i]? = some x) (hvi : Vis X.env.scope x) (hd : (x == ("__debug__" : Str)) = false) (hcd : (x == ("__classdict__" : Str)) = false) (hr : PA X es (tEs T W C as))
    (hs : starEach (.Name x p :: es) X.env = (false, eval (.Name x p) X.env) :: starEach es X.env) : PA X (.Name x p :: es) (tEs T W C (.cons (.var i) as)) := by
  refine PA.imp (pa_cons (pe_var hN hvi hd hcd) hr hs) fun σ H Q h => ?_
  obtain ⟨Hen, G, ρ, P, r, S, ev, k⟩ := h
  unfold evalEs evalE rget at ev
  cases e : ρ[i]? with
  | none => rw [e] at ev; cases ev
  | some s =>
    rw [e] at ev
    cases s with
    | no => cases ev
    | own d => cases ev
    | cold d =>
      obtain ⟨v, e1, rr⟩ := S.cold i d e
      dsimp only at ev
      cases e2 : evalEs C as ρ P with
      | none => rw [e2] at ev; cases ev
      | some rs =>
        rw [e2] at ev
        refine ⟨v, e1, Hen, G, ρ, P, rs, S, e2, ?_⟩
        cases rs with
        | exc c o d2 P2 => cases ev; exact k
        | ok ds P2 =>
          cases ev
          intro vs G3 H3 y pu3 rr3 hv3
          refine k (v :: vs) G3 H3 y pu3 ?_ fun j i' hj => ?_
          · unfold RepL
            exact ⟨v, vs, rfl, Rep.mono y.hf y.p d rr, rr3⟩
          · cases j with
            | zero => cases hj; exact ⟨v, rfl, e1⟩
            | succ j => exact hv3 j i' hj
theorem lim_line {n : Nat} (h : n ≤ LIM) : n ≤ sizeLine := by
  rw [sizeLine_eq]
  unfold LIM at h
  omega
theorem s_lst {es : List Expr} {as : Es} {pos : Pos} (h : PA X es (tEs T W C as)) : PE X (.List es pos) (tE T X.K W C (.lst as)) := by
  refine PE.imp (pe_lst h) fun σ H Q ⟨Hen, G, ρ, P, r, S, ev, k⟩ => ?_
  unfold evalE at ev
  refine thenL S ev k fun ds P1 vs G1 H1 S1 rr _ x ev1 k1 => ?_
  split at ev1
  · rename_i hl
    cases ev1
    exact ⟨by rw [rr.length]; exact lim_line hl, fun p n => k1.newL S1 rr n⟩
  · cases ev1
theorem s_tup {es : List Expr} {as : Es} {x1} {pos : Pos} (h : PA X es (tEs T W C as)) : PE X (.Tuple es x1 pos) (tE T X.K W C (.tup as)) := by
  refine PE.imp (pe_tup h) fun σ H Q ⟨Hen, G, ρ, P, r, S, ev, k⟩ => ?_
  unfold evalE at ev
  refine thenL S ev k fun ds P1 vs G1 H1 S1 rr _ x ev1 k1 => ?_
  split at ev1
  · rename_i hl
    cases ev1
    exact ⟨by rw [rr.length]; exact lim_line hl, fun p n => k1.newT S1 rr n⟩
  · cases ev1
end
end B


/-! .. operators, comparisons, tests. -/
namespace B
open PySem PySem.Spec L2
section
variable {T : Tb} {X : Cx} {K : PySem.W.Frag} {W : WX} {C : Calls} {Hen : Hp} {G G1 : Gh} {P P1 : Option Pu} {H H0 H1 : Hp} {σ : St} {ρ : Sl} {Q Q' : VK} {r : R}
/-- both ways of asking an expression: its value, and as a test -/
structure Snd (T : Tb) (X : Cx) (W : WX) (C : Calls) (ast : Expr) (e : E) : Prop where
  pe : PE X ast (tE T X.K W C e)
  pt : PT X ast (tT T X.K W C e)
theorem Snd.of {ast : Expr} {e : E} (h : PE X ast (tE T X.K W C e)) (he : ∀ whole, isTrue ast X.env whole = (do let v ← whole; standAt ast.pos; holding [v] (truthy v))) : Snd T X W C ast e := ⟨h, pt_val h he⟩
/-! ### list + list, of lists that are read -/
def rCatS : R2 := fun x y H Q => ∃ l b xs zs, x = .ref l ∧ y = .ref b ∧ Rd H l (.lst xs) ∧ Rd H b (.lst zs) ∧ xs.length + zs.length ≤ sizeLine ∧ ∀ p, H p = none → Q (.ref p) (upd H p (.lst (xs ++ zs)))
theorem op_catS : OpR X (binaryOp .Add) rCatS := by
  intro pins s σ H x y v u Q I rx ry h
  obtain ⟨l, b, xs, zs, rfl, rfl, hH, hB, hz, q⟩ := h
  cases rx
  cases ry
  obtain ⟨z, its, n, r, hl⟩ := hH.ok I.hok
  obtain ⟨z2, its2, n2, r2, hl2⟩ := hB.ok I.hok
  have el := r.length
  have el2 := r2.length
  refine PySem.P.add_list hl hl2 ?_ (by rw [List.size_toArray, List.size_toArray]; omega)
  have ea : its.toArray ++ its2.toArray = (its ++ its2).toArray := by simp
  rw [ea]
  exact ⟨.ref _, _, I.lnew (t' := s.toks) (r.append r2) (by rw [List.length_append]; omega), rfl, q _ I.fresh⟩
/-! ### operators -/
def CPowB (i j : Int) : Prop := 0 ≤ j ∧ (Builtin.Int.intBits i : Int) * j ≤ 2 ^ 27
theorem op_powB {X : Cx} : OpR X (binaryOp .Pow) (rI CPowB fun i j => .int (i ^ j.toNat)) := opI fun _ _ _ _ _ _ _ hc q => PyProof.Rows.pow_int hc.1 hc.2 q
def opOf : Bop → Operator
  | .add => .Add | .sub => .Sub | .mul => .Mult | .fdv => .FloorDiv | .mod => .Mod | .pow => .Pow
def rBin : Bop → R2
  | .add => fun x y H Q => (rI0 (fun i j => .int (i + j)) x y H Q ∨ (∃ i j, x = .str i ∧ y = .str j ∧ i.length + j.length ≤ sizeLine ∧ Q (.str (i ++ j)) H)) ∨ rCatS x y H Q
  | .sub => rI0 fun i j => .int (i - j)
  | .mul => rI CMul fun i j => .int (i * j)
  | .fdv => rI CDiv fun i j => .int (i / j)
  | .mod => rI (fun _ j => 0 < j) fun i j => .int (i % j)
  | .pow => rI CPowB fun i j => .int (i ^ j.toNat)
theorem op_bin : ∀ o : Bop, OpR X (binaryOp (opOf o)) (rBin o)
  | .add => OpR.or (OpR.or op_add op_add_str) op_catS
  | .sub => op_sub
  | .mul => op_mul
  | .fdv => op_fdiv
  | .mod => op_mod
  | .pow => op_powB
theorem small_ok {i : Int} (h : small i = true) : -(2 ^ 64) < i ∧ i < 2 ^ 64 := by
  unfold small at h
  rw [Bool.and_eq_true] at h
  exact ⟨of_decide_eq_true h.1, of_decide_eq_true h.2⟩
theorem bin_ok {o : Bop} {x y : D} {v w : V} {mx my : Mode} {H00 : Hp} (S : StOk T Hen G P H σ ρ) (rx : RRes T K H0 G H x v mx) (ry : RRes T K H00 G H y w my) (ev : rok (binD o x y) P = some r) (k : Kont T K W G H σ r Q) : rBin o v w H Q := by
  cases x with
  | int i =>
    cases y with
    | int j =>
      rw [rx.int, ry.int]
      cases o with
      | add => cases ev; exact .inl (.inl ⟨i, j, rfl, rfl, k.int S⟩)
      | sub => cases ev; exact ⟨i, j, rfl, rfl, k.int S⟩
      | mul =>
        unfold binD at ev
        dsimp only at ev
        split at ev
        · rename_i hs
          cases ev
          rw [Bool.or_eq_true] at hs
          exact ⟨i, j, rfl, rfl, hs.elim (fun z => .inl (small_ok z)) fun z => .inr (small_ok z), k.int S⟩
        · cases ev
      | fdv =>
        unfold binD at ev
        dsimp only at ev
        split at ev
        · rename_i hs
          cases ev
          rw [Bool.and_eq_true] at hs
          exact ⟨i, j, rfl, rfl, ⟨of_decide_eq_true hs.1, of_decide_eq_true hs.2⟩, k.int S⟩
        · cases ev
      | mod =>
        unfold binD at ev
        dsimp only at ev
        split at ev
        · rename_i hs
          cases ev
          exact ⟨i, j, rfl, rfl, of_decide_eq_true hs, k.int S⟩
        · cases ev
      | pow =>
        unfold binD at ev
        dsimp only at ev
        split at ev
        · rename_i hs
          cases ev
          rw [Bool.and_eq_true] at hs
          exact ⟨i, j, rfl, rfl, ⟨of_decide_eq_true hs.1, by have := of_decide_eq_true hs.2; omega⟩, k.int S⟩
        · cases ev
    | _ => cases ev
  | str i =>
    cases y with
    | str j =>
      rw [rx.str, ry.str]
      cases o with
      | add =>
        unfold binD at ev
        dsimp only at ev
        split at ev
        · rename_i hs
          cases ev
          exact .inl (.inr ⟨i, j, rfl, rfl, lim_line hs, k.str S⟩)
        · cases ev
      | _ => cases ev
    | _ => cases ev
  | lst i =>
    cases y with
    | lst j =>
      cases o with
      | add =>
        unfold binD at ev
        dsimp only at ev
        split at ev
        · rename_i hs
          cases ev
          obtain ⟨a, vs, e1, q1, l1⟩ := rx.list S.sub
          obtain ⟨b, ws, e2, q2, l2⟩ := ry.list S.sub
          refine .inr ⟨a, b, vs, ws, e1, e2, q1, q2, by rw [l1.length, l2.length]; exact lim_line hs, fun p n => k.newL S (l1.append l2) n⟩
        · cases ev
      | _ => cases ev
    | _ => cases ev
  | _ => cases ev
theorem s_bin {o : Bop} {a b : Expr} {ea eb : E} {pos : Pos} (ha : PE X a (tE T X.K W C ea)) (hb : PE X b (tE T X.K W C eb)) : PE X (.BinOp a (opOf o) b pos) (tE T X.K W C (.bin o ea eb)) := by
  refine PE.imp (pe_op (op_bin o) ha hb) fun σ H Q ⟨Hen, G, ρ, P, r, S, ev, k⟩ => ?_
  unfold evalE at ev
  refine thenE S ev k fun d m P1 v G1 H1 S1 r1 x1 ev1 k1 => ?_
  refine thenE S1 ev1 k1 fun e n P2 w G2 H2 S2 r2 x2 ev2 k2 => ?_
  exact bin_ok S2 (r1.ext S1.pu x2 S2.pu) r2 ev2 k2
theorem s_neg {a : Expr} {ea : E} {pos : Pos} (ha : PE X a (tE T X.K W C ea)) : PE X (.UnaryOp .USub a pos) (tE T X.K W C (.neg ea)) := by
  refine PE.imp (pe_un un_neg ha) fun σ H Q ⟨Hen, G, ρ, P, r, S, ev, k⟩ => ?_
  unfold evalE at ev
  refine thenE S ev k fun d m P1 v G1 H1 S1 r1 x1 ev1 k1 => ?_
  cases d with
  | int i => cases ev1; exact ⟨i, r1.int, k1.int S1⟩
  | _ => cases ev1
/-! ### and, or, not, if else -/
theorem truth_ok {d : D} {b : Bool} {v : V} {m : Mode} (h : truth d = some b) (r : RRes T K H0 G H d v m) : v = .bl b := by
  cases d with
  | bl c => cases h; exact r.bl
  | _ => cases h
theorem s_not {a : Expr} {ea : E} {pos : Pos} (ha : Snd T X W C a ea) : Snd T X W C (.UnaryOp .Not a pos) (.not ea) := by
  refine ⟨PE.imp (pe_not ha.pe) fun σ H Q ⟨Hen, G, ρ, P, r, S, ev, k⟩ => ?_, PT.imp (pt_not ha.pt) fun σ H Q ⟨Hen, G, ρ, P, r, S, ev, k⟩ => ?_⟩
  all_goals
    unfold evalE at ev
    refine thenE S ev k fun d m P1 v G1 H1 S1 r1 x1 ev1 k1 => ?_
    cases e : truth d with
    | none => rw [e] at ev1; cases ev1
    | some b => ?_
    rw [e] at ev1
    cases ev1
  · exact ⟨b, truth_ok e r1, k1.bl S1⟩
  · obtain ⟨c, e2, q⟩ := k1.bl S1
    cases e2
    exact ⟨b, truth_ok e r1, q⟩
theorem s_ife {c a b : Expr} {ec ea eb : E} {pos : Pos} (hc : Snd T X W C c ec) (ha : PE X a (tE T X.K W C ea)) (hb : PE X b (tE T X.K W C eb)) : PE X (.IfExp c a b pos) (tE T X.K W C (.ife ec ea eb)) := by
  refine PE.imp (pe_ifExp hc.pt ha hb) fun σ H Q ⟨Hen, G, ρ, P, r, S, ev, k⟩ => ?_
  unfold evalE at ev
  refine thenE S ev k fun d m P1 v G1 H1 S1 r1 x1 ev1 k1 => ?_
  cases e : truth d with
  | none => rw [e] at ev1; cases ev1
  | some b =>
    rw [e] at ev1
    refine ⟨b, truth_ok e r1, ?_⟩
    cases b with
    | true => exact iteT ⟨Hen, G1, ρ, P1, r, S1, ev1, k1⟩
    | false => exact iteF ⟨Hen, G1, ρ, P1, r, S1, ev1, k1⟩
/-- and, or of two and more -/
structure SndB (T : Tb) (X : Cx) (W : WX) (C : Calls) (ast : Expr) (e : E) : Prop where
  pe : PE X ast (tE T X.K W C e)
  pw : PW X ast (tT T X.K W C e)
theorem SndB.snd {ast : Expr} {e : E} (h : SndB T X W C ast e) : Snd T X W C ast e := ⟨h.pe, h.pw.pt⟩
theorem PW.imp {X : Cx} {e : Expr} {t t' : TT} (h : PW X e t) (i : ∀ σ H Q, t' σ H Q → t σ H Q) : PW X e t' := ⟨fun wh pins s σ H Q I w => h.run wh pins s σ H Q I (i _ _ _ w)⟩
theorem s_and1 {a : Expr} {ea : E} {pos : Pos} (ha : Snd T X W C a ea) : SndB T X W C (.BoolOp .And [a] pos) ea := ⟨pe_one ha.pe, pw_and1 ha.pt⟩
theorem s_or1 {a : Expr} {ea : E} {pos : Pos} (ha : Snd T X W C a ea) : SndB T X W C (.BoolOp .Or [a] pos) ea := ⟨pe_one ha.pe, pw_or1 ha.pt⟩
theorem s_and {a b : Expr} {rest : List Expr} {ea eb : E} {pos : Pos} (ha : Snd T X W C a ea) (hb : SndB T X W C (.BoolOp .And (b :: rest) pos) eb) : SndB T X W C (.BoolOp .And (a :: b :: rest) pos) (.and ea eb) := by
  refine ⟨PE.imp (pe_and ha.pe hb.pe) fun σ H Q ⟨Hen, G, ρ, P, r, S, ev, k⟩ => ?_, PW.imp (pw_and ha.pt hb.pw) fun σ H Q ⟨Hen, G, ρ, P, r, S, ev, k⟩ => ?_⟩
  all_goals
    unfold evalE at ev
    refine thenE S ev k fun d m P1 v G1 H1 S1 r1 x1 ev1 k1 => ?_
    cases e : truth d with
    | none => rw [e] at ev1; cases ev1
    | some b => ?_
    rw [e] at ev1
    refine ⟨b, truth_ok e r1, ?_⟩
    cases b with
    | true => exact iteT ⟨Hen, G1, ρ, P1, r, S1, ev1, k1⟩
    | false => ?_
    cases ev1
  · exact iteF (k1.bl S1)
  · obtain ⟨c, e2, q⟩ := k1.bl S1
    cases e2
    exact iteF q
theorem s_or {a b : Expr} {rest : List Expr} {ea eb : E} {pos : Pos} (ha : Snd T X W C a ea) (hb : SndB T X W C (.BoolOp .Or (b :: rest) pos) eb) : SndB T X W C (.BoolOp .Or (a :: b :: rest) pos) (.or ea eb) := by
  refine ⟨PE.imp (pe_or ha.pe hb.pe) fun σ H Q ⟨Hen, G, ρ, P, r, S, ev, k⟩ => ?_, PW.imp (pw_or ha.pt hb.pw) fun σ H Q ⟨Hen, G, ρ, P, r, S, ev, k⟩ => ?_⟩
  all_goals
    unfold evalE at ev
    refine thenE S ev k fun d m P1 v G1 H1 S1 r1 x1 ev1 k1 => ?_
    cases e : truth d with
    | none => rw [e] at ev1; cases ev1
    | some b => ?_
    rw [e] at ev1
    refine ⟨b, truth_ok e r1, ?_⟩
    cases b with
    | false => exact iteF ⟨Hen, G1, ρ, P1, r, S1, ev1, k1⟩
    | true => ?_
    cases ev1
  · exact iteT (k1.bl S1)
  · obtain ⟨c, e2, q⟩ := k1.bl S1
    cases e2
    exact iteT q
end
end B


/-! .. comparisons. -/
namespace B
open PySem PySem.Spec L2
/-! ### deep data as the library's data -/
mutual
theorem py_plain : ∀ (d : D) {q : PyData}, d.py = some q → q.plain = true
  | .non, q, h => by unfold D.py at h; cases h; rfl
  | .bl b, q, h => by unfold D.py at h; cases h; rfl
  | .int i, q, h => by unfold D.py at h; cases h; rfl
  | .str x, q, h => by unfold D.py at h; cases h; rfl
  | .tup xs, q, h => by
    unfold D.py at h
    cases e : pyL xs with
    | none => rw [e] at h; cases h
    | some l => rw [e] at h; cases h; unfold PyData.plain; exact pyL_plain xs e
  | .lst xs, q, h => by
    unfold D.py at h
    cases e : pyL xs with
    | none => rw [e] at h; cases h
    | some l => rw [e] at h; cases h; unfold PyData.plain; exact pyL_plain xs e
  | .dct _, q, h => by unfold D.py at h; cases h
  | .obj _ _, q, h => by unfold D.py at h; cases h
  | .pur, q, h => by unfold D.py at h; cases h
  | .fn _, q, h => by unfold D.py at h; cases h
theorem pyL_plain : ∀ (xs : List D) {l : List PyData}, pyL xs = some l → PyData.plainAll l = true
  | [], l, h => by unfold pyL at h; cases h; rfl
  | x :: xs, l, h => by
    unfold pyL at h
    cases e1 : x.py with
    | none => rw [e1] at h; cases h
    | some a =>
      cases e2 : pyL xs with
      | none => rw [e1, e2] at h; cases h
      | some r =>
        rw [e1, e2] at h
        cases h
        unfold PyData.plainAll
        rw [py_plain x e1, pyL_plain xs e2]
        rfl
end
section
variable {T : Tb} {K : PySem.W.Frag} {G : Gh} {H : Hp}
mutual
theorem rep_dp (sub : Same G.Hf H) : ∀ (d : D) {v : V} {q : PyData}, Rep T G d v → d.py = some q → Dp K H v q
  | .non, v, q, r, h => by unfold D.py at h; cases h; unfold Rep at r; subst r; exact .non
  | .bl b, v, q, r, h => by unfold D.py at h; cases h; unfold Rep at r; subst r; exact .bl b
  | .int i, v, q, r, h => by unfold D.py at h; cases h; unfold Rep at r; subst r; exact .int i
  | .str x, v, q, r, h => by unfold D.py at h; cases h; unfold Rep at r; subst r; exact .str x
  | .tup xs, v, q, r, h => by
    unfold D.py at h
    cases e : pyL xs with
    | none => rw [e] at h; cases h
    | some l =>
      rw [e] at h; cases h
      unfold Rep at r
      obtain ⟨a, vs, ev, hq, rl⟩ := r
      subst ev
      exact .tup (SqT.of (sub _ _ hq)) (repL_dp sub xs rl e)
  | .lst xs, v, q, r, h => by
    unfold D.py at h
    cases e : pyL xs with
    | none => rw [e] at h; cases h
    | some l =>
      rw [e] at h; cases h
      unfold Rep at r
      obtain ⟨a, vs, ev, hq, rl⟩ := r
      subst ev
      exact .lst (.inl (.inl (sub _ _ hq))) (repL_dp sub xs rl e)
  | .dct _, v, q, r, h => by unfold D.py at h; cases h
  | .obj _ _, v, q, r, h => by unfold D.py at h; cases h
  | .pur, v, q, r, h => by unfold D.py at h; cases h
  | .fn _, v, q, r, h => by unfold D.py at h; cases h
theorem repL_dp (sub : Same G.Hf H) : ∀ (xs : List D) {vs : List V} {l : List PyData}, RepL T G xs vs → pyL xs = some l → DpAll K H vs l
  | [], vs, l, r, h => by unfold pyL at h; cases h; unfold RepL at r; subst r; exact .nil
  | x :: xs, vs, l, r, h => by
    unfold pyL at h
    cases e1 : x.py with
    | none => rw [e1] at h; cases h
    | some a =>
      cases e2 : pyL xs with
      | none => rw [e1, e2] at h; cases h
      | some t =>
        rw [e1, e2] at h
        cases h
        unfold RepL at r
        obtain ⟨v, w, ev, r1, r2⟩ := r
        subst ev
        exact .cons (rep_dp sub x r1 e1) (repL_dp sub xs r2 e2)
end
theorem RRes.dp {H0 : Hp} {d : D} {v : V} {m : Mode} {q : PyData} (sub : Same G.Hf H) (r : RRes T K H0 G H d v m) (h : d.py = some q) : Dp K H v q := by
  cases d with
  | lst xs =>
    obtain ⟨a, vs, e, hq, rl⟩ := r.list sub
    subst e
    unfold D.py at h
    cases e : pyL xs with
    | none => rw [e] at h; cases h
    | some l =>
      rw [e] at h; cases h
      exact .lst (.inl hq) (repL_dp sub xs rl e)
  | tup xs =>
    obtain ⟨a, vs, e, hq, rl⟩ := r.tuple sub
    subst e
    unfold D.py at h
    cases e : pyL xs with
    | none => rw [e] at h; cases h
    | some l =>
      rw [e] at h; cases h
      exact .tup hq (repL_dp sub xs rl e)
  | non => rw [r.non]; unfold D.py at h; cases h; exact .non
  | bl b => rw [r.bl]; unfold D.py at h; cases h; exact .bl b
  | int i => rw [r.int]; unfold D.py at h; cases h; exact .int i
  | str x => rw [r.str]; unfold D.py at h; cases h; exact .str x
  | _ => unfold D.py at h; cases h
end
/-! ### the rules -/
section
variable {T : Tb} {X : Cx} {K : PySem.W.Frag} {W : WX} {C : Calls} {Hen : Hp} {G G1 : Gh} {P P1 : Option Pu} {H H0 H1 : Hp} {σ : St} {ρ : Sl} {Q Q' : VK} {r : R}
def rEqP (K : PySem.W.Frag) (neg : Bool) : R2 := fun x y H Q => ∃ d e, Dp K H x d ∧ Dp K H y e ∧ d.plain = true ∧ e.plain = true ∧ min d.depth e.depth ≤ 60 ∧ Q (.bl (if neg then !PyData.eqv d e else PyData.eqv d e)) H
theorem op_eqP (hu : X.A.units + 64 < cLine) : OpR X (compareOp .Eq) (rEqP X.K false) := by
  intro pins s σ H x y v u Q I rx ry h
  obtain ⟨d, e, hd, he, sd, se, hz, q⟩ := h
  obtain ⟨as, r1⟩ := Dp.reads I d x v hd rx
  obtain ⟨bs, r2⟩ := Dp.reads I e y u he ry
  exact SeqAt.eq_plain r1 r2 sd se (by omega) ⟨.bl _, H, I, rfl, q⟩
theorem op_neP (hu : X.A.units + 64 < cLine) : OpR X (compareOp .NotEq) (rEqP X.K true) := by
  intro pins s σ H x y v u Q I rx ry h
  obtain ⟨d, e, hd, he, sd, se, hz, q⟩ := h
  obtain ⟨as, r1⟩ := Dp.reads I d x v hd rx
  obtain ⟨bs, r2⟩ := Dp.reads I e y u he ry
  exact SeqAt.ne_plain r1 r2 sd se (by omega) ⟨.bl _, H, I, rfl, q⟩
/-- <, >= ; with sw: >, <= -/
def rLtP (K : PySem.W.Frag) (neg sw : Bool) : R2 := fun x y H Q => ∃ d e, Dp K H x d ∧ Dp K H y e ∧ PySem.W.alike d e = true ∧ d ≠ .none ∧ min d.depth e.depth ≤ 60 ∧
  Q (.bl (if neg then !(if sw then PySem.W.dataLt e d else PySem.W.dataLt d e) else if sw then PySem.W.dataLt e d else PySem.W.dataLt d e)) H
theorem op_ltP (hu : X.A.units + 64 < cLine) : OpR X (compareOp .Lt) (rLtP X.K false false) := by
  intro pins s σ H x y v u Q I rx ry h
  obtain ⟨d, e, hd, he, sd, se, hz, q⟩ := h
  obtain ⟨as, r1⟩ := Dp.reads I d x v hd rx
  obtain ⟨bs, r2⟩ := Dp.reads I e y u he ry
  exact PySem.W.lt_data r1 r2 sd se (by omega) ⟨.bl _, H, I, rfl, q⟩
theorem op_gtP (hu : X.A.units + 64 < cLine) : OpR X (compareOp .Gt) (rLtP X.K false true) := by
  intro pins s σ H x y v u Q I rx ry h
  obtain ⟨d, e, hd, he, sd, se, hz, q⟩ := h
  obtain ⟨as, r1⟩ := Dp.reads I d x v hd rx
  obtain ⟨bs, r2⟩ := Dp.reads I e y u he ry
  exact PySem.W.gt_data r1 r2 sd se (by omega) ⟨.bl _, H, I, rfl, q⟩
theorem op_leP (hu : X.A.units + 64 < cLine) : OpR X (compareOp .LtE) (rLtP X.K true true) := by
  intro pins s σ H x y v u Q I rx ry h
  obtain ⟨d, e, hd, he, sd, se, hz, q⟩ := h
  obtain ⟨as, r1⟩ := Dp.reads I d x v hd rx
  obtain ⟨bs, r2⟩ := Dp.reads I e y u he ry
  exact PySem.W.le_data r1 r2 sd se (by omega) ⟨.bl _, H, I, rfl, q⟩
theorem op_geP (hu : X.A.units + 64 < cLine) : OpR X (compareOp .GtE) (rLtP X.K true false) := by
  intro pins s σ H x y v u Q I rx ry h
  obtain ⟨d, e, hd, he, sd, se, hz, q⟩ := h
  obtain ⟨as, r1⟩ := Dp.reads I d x v hd rx
  obtain ⟨bs, r2⟩ := Dp.reads I e y u he ry
  exact PySem.W.ge_data r1 r2 sd se (by omega) ⟨.bl _, H, I, rfl, q⟩
def rInP (K : PySem.W.Frag) (neg : Bool) : R2 := fun x y H Q =>
  (∃ d ds, Dp K H x d ∧ (Dp K H y (.list ds) ∨ Dp K H y (.tuple ds)) ∧ PyData.plainAll ds = true ∧ d.plain = true ∧ min (PyData.depthAll ds) d.depth ≤ 60 ∧ Q (.bl (if neg then !ds.any (fun z => PyData.eqv z d) else ds.any fun z => PyData.eqv z d)) H) ∨
  ∃ a o, y = .ref a ∧ DGet H a x o ∧ Q (.bl (if neg then !o.isSome else o.isSome)) H
theorem op_inP (hu : X.A.units + 64 < cLine) : OpR X (compareOp .In) (rInP X.K false) := by
  intro pins s σ H x y v u Q I rx ry h
  rcases h with ⟨d, ds, hd, hl, sd, se, hz, q⟩ | ⟨a, o, e, g, q⟩
  · obtain ⟨as, r1⟩ := Dp.reads I d x v hd rx
    rcases hl with hl | hl
    · obtain ⟨bs, r2⟩ := Dp.reads I _ y u hl ry
      exact SeqAt.in_list_data r2 r1 sd se (by omega) ⟨.bl _, H, I, rfl, q⟩
    · obtain ⟨bs, r2⟩ := Dp.reads I _ y u hl ry
      exact SeqAt.in_tuple_data r2 r1 sd se (by omega) ⟨.bl _, H, I, rfl, q⟩
  · subst e
    cases ry
    exact d_in (by omega) I g rx fun s' I' => ⟨.bl _, H, I', rfl, q⟩
theorem op_ninP (hu : X.A.units + 64 < cLine) : OpR X (compareOp .NotIn) (rInP X.K true) := by
  intro pins s σ H x y v u Q I rx ry h
  rcases h with ⟨d, ds, hd, hl, sd, se, hz, q⟩ | ⟨a, o, e, g, q⟩
  · obtain ⟨as, r1⟩ := Dp.reads I d x v hd rx
    rcases hl with hl | hl
    · obtain ⟨bs, r2⟩ := Dp.reads I _ y u hl ry
      exact SeqAt.notIn_list_data r2 r1 sd se (by omega) ⟨.bl _, H, I, rfl, q⟩
    · obtain ⟨bs, r2⟩ := Dp.reads I _ y u hl ry
      exact SeqAt.notIn_tuple_data r2 r1 sd se (by omega) ⟨.bl _, H, I, rfl, q⟩
  · subst e
    cases ry
    exact d_notIn (by omega) I g rx fun s' I' => ⟨.bl _, H, I', rfl, q⟩
/-! ### dicts -/
theorem RepK.get : ∀ {kvs : List (D × D)} {ks : List (Key × V)} {k : Key}, RepK T G kvs ks → homog (.inl k) kvs = true →
    (∀ d, findK (.inl k) kvs = some d → ∃ v, valV ks k = some v ∧ Rep T G d v) ∧ (findK (.inl k) kvs = none → valV ks k = none)
  | [], ks, k, h, _ => by
    unfold RepK at h
    subst h
    exact ⟨fun d e => (by cases e), fun _ => rfl⟩
  | (kd, d) :: r, ks, k, h, hh => by
    unfold RepK at h
    obtain ⟨q, v, t, e, ek, rv, rr⟩ := h
    subst e
    have hh2 : homog (.inl k) r = true := by
      unfold homog at hh ⊢
      rw [List.all_cons, Bool.and_eq_true] at hh
      exact hh.2
    obtain ⟨h1, h2⟩ := RepK.get (k := k) rr hh2
    have ekd : kd.kd = some (.inl q) := by
      cases kd with
      | int i => cases ek; rfl
      | str x => cases ek; rfl
      | _ => cases ek
    unfold findK
    by_cases hq : q = k
    · subst hq
      rw [if_pos (by rw [ekd])]
      exact ⟨fun d' e => by cases e; exact ⟨v, valV_pos rfl, rv⟩, fun e => by cases e⟩
    · have hn : ¬ (kd.kd = some (Sum.inl k : KeyD)) := fun z => by
        rw [ekd] at z
        cases z
        exact hq rfl
      rw [if_neg hn]
      exact ⟨fun d' e => by rw [valV_neg hq]; exact h1 d' e, fun e => by rw [valV_neg hq]; exact h2 e⟩
theorem RepT.get : ∀ {kvs : List (D × D)} {ks : List (List Key × V)} {k : List Key}, RepT T G kvs ks →
    (∀ d, findK (.inr k) kvs = some d → ∃ v, valV ks k = some v ∧ Rep T G d v) ∧ (findK (.inr k) kvs = none → valV ks k = none)
  | [], ks, k, h => by
    unfold RepT at h
    subst h
    exact ⟨fun d e => (by cases e), fun _ => rfl⟩
  | (kd, d) :: r, ks, k, h => by
    unfold RepT at h
    obtain ⟨q, v, t, e, ekd, rv, rr⟩ := h
    subst e
    obtain ⟨h1, h2⟩ := RepT.get (k := k) rr
    unfold findK
    by_cases hq : q = k
    · subst hq
      rw [if_pos (by rw [ekd])]
      exact ⟨fun d' e => by cases e; exact ⟨v, valV_pos rfl, rv⟩, fun e => by cases e⟩
    · have hn : ¬ (kd.kd = some (Sum.inr k : KeyD)) := fun z => by
        rw [ekd] at z
        cases z
        exact hq rfl
      rw [if_neg hn]
      exact ⟨fun d' e => by rw [valV_neg hq]; exact h1 d' e, fun e => by rw [valV_neg hq]; exact h2 e⟩
theorem kd_cases {d : D} {q : KeyD} (h : d.kd = some q) : (∃ k, q = .inl k ∧ d.k1 = some k) ∨ ∃ l xs, q = .inr l ∧ d = .tup xs ∧ k1L xs = some l := by
  cases d with
  | tup xs =>
    unfold D.kd at h
    dsimp only at h
    cases e : k1L xs with
    | none => rw [e] at h; cases h
    | some l => rw [e] at h; cases h; exact .inr ⟨l, xs, rfl, rfl, e⟩
  | int i => cases h; exact .inl ⟨_, rfl, rfl⟩
  | str i => cases h; exact .inl ⟨_, rfl, rfl⟩
  | _ => cases h
theorem k1_rep {d : D} {k : Key} {v : V} (h : d.k1 = some k) (r : Rep T G d v) : v = kV k := by
  cases d with
  | int i => cases h; unfold Rep at r; exact r
  | str i => cases h; unfold Rep at r; exact r
  | _ => cases h
theorem k1L_rep : ∀ {xs : List D} {l : List Key} {vs : List V}, k1L xs = some l → RepL T G xs vs → vs = l.map kV
  | [], l, vs, h, r => by unfold k1L at h; cases h; unfold RepL at r; exact r
  | x :: xs, l, vs, h, r => by
    unfold k1L at h
    cases e1 : x.k1 with
    | none => rw [e1] at h; cases h
    | some a =>
      cases e2 : k1L xs with
      | none => rw [e1, e2] at h; cases h
      | some t =>
        rw [e1, e2] at h
        cases h
        unfold RepL at r
        obtain ⟨v, w, ev, r1, r2⟩ := r
        rw [ev, k1_rep e1 r1, k1L_rep e2 r2]
        rfl
/-- a dict that is read, with its pairs -/
def DictAt (T : Tb) (G : Gh) (H : Hp) (kvs : List (D × D)) (v : V) : Prop := ∃ a, v = .ref a ∧ ((∃ ks, H a = some (.dK ks) ∧ RepK T G kvs ks) ∨ ∃ ks, H a = some (.dT ks) ∧ RepT T G kvs ks)
theorem RRes.dict {kvs : List (D × D)} {v : V} {m : Mode} (sub : Same G.Hf H) (h : RRes T K H0 G H (.dct kvs) v m) : DictAt T G H kvs v := by
  cases m with
  | cold =>
    unfold RRes Rep at h
    obtain ⟨a, e, ⟨ks, q, r⟩ | ⟨ks, q, r⟩⟩ := h
    · exact ⟨a, e, .inl ⟨ks, sub _ _ q, r⟩⟩
    · exact ⟨a, e, .inr ⟨ks, sub _ _ q, r⟩⟩
  | fresh => obtain ⟨a, e, _, _, _, t⟩ := h; exact ⟨a, e, t⟩
  | bor => obtain ⟨a, e, ⟨_, t⟩ | ⟨_, _, z, _⟩⟩ := h; exact ⟨a, e, t⟩; cases z
/-- asking a dict: a key that is told -/
theorem dict_get {kvs : List (D × D)} {kd : D} {q : KeyD} {w : V} {a : Addr} (sub : Same G.Hf H) (h : (∃ ks, H a = some (.dK ks) ∧ RepK T G kvs ks) ∨ ∃ ks, H a = some (.dT ks) ∧ RepT T G kvs ks) (hq : kd.kd = some q) (rk : Rep T G kd w)
    (hh : homog q kvs = true) : ∃ o, (DGet H a w o ∨ (kvs = [] ∧ o = none)) ∧ (∀ d, findK q kvs = some d → ∃ v, o = some v ∧ Rep T G d v) ∧ (findK q kvs = none → o = none) := by
  cases kvs with
  | nil => exact ⟨none, .inr ⟨rfl, rfl⟩, fun d e => (by cases e), fun _ => rfl⟩
  | cons p r =>
    rcases kd_cases hq with ⟨k, rfl, ek⟩ | ⟨l, xs, rfl, rfl, el⟩
    · have ew := k1_rep ek rk
      subst ew
      rcases h with ⟨ks, e, rr⟩ | ⟨ks, e, rr⟩
      · obtain ⟨h1, h2⟩ := rr.get hh
        exact ⟨_, .inl (DGet.k e), h1, h2⟩
      · exfalso
        obtain ⟨kd', d'⟩ := p
        unfold RepT at rr
        obtain ⟨q', v', t', _, ekd, _⟩ := rr
        unfold homog at hh
        rw [List.all_cons, Bool.and_eq_true] at hh
        have z := hh.1
        dsimp only at z
        rw [ekd] at z
        cases z
    · unfold Rep at rk
      obtain ⟨b, vs, ew, hb, rl⟩ := rk
      subst ew
      have ev := k1L_rep el rl
      subst ev
      rcases h with ⟨ks, e, rr⟩ | ⟨ks, e, rr⟩
      · exfalso
        obtain ⟨kd', d'⟩ := p
        unfold RepK at rr
        obtain ⟨q', v', t', _, ek, _⟩ := rr
        have ekd : kd'.kd = some (.inl q') := by
          cases kd' with
          | int i => cases ek; rfl
          | str x => cases ek; rfl
          | _ => cases ek
        unfold homog at hh
        rw [List.all_cons, Bool.and_eq_true] at hh
        have z := hh.1
        dsimp only at z
        rw [ekd] at z
        cases z
      · obtain ⟨h1, h2⟩ := rr.get (k := l)
        exact ⟨_, .inl (DGet.t e (sub _ _ hb)), h1, h2⟩
end
end B


/-! .. comparisons in the language, items, slices. -/
namespace B
open PySem PySem.Spec L2
/-! ### an empty dict is of both kinds -/
section
variable {X : Cx} {pins : List (Addr × Obj)} {σ : St} {H : Hp} {s : Shared} {a : Addr}
theorem upd_back {o u : HO} (e : H a = some o) : upd (upd H a u) a o = H := by
  rw [upd_upd]
  funext b
  by_cases hb : b = a
  · rw [hb, upd_same, e]
  · rw [upd_ne hb]
theorem empty_dt {P : Program} {w : World} {h : Heap} {kvs : List (Key × V)} {H' : Hp} (hk : kvs = []) (h1 : ObjOk P w H h a (.dK kvs)) : ObjOk P w H' h a (.dT []) := by
  subst hk
  obtain ⟨_, hs, vs, rel, o, es, ep, e1, e2, e3, e4, e5, e6⟩ := h1
  cases rel
  have z : es.toList = [] := by
    cases q : es.toList with
    | nil => rfl
    | cons x r => rw [q] at e5; cases e5
  exact ⟨Nat.zero_le _, hs, [], .nil, o, es, ep, e1, e2, e3, by rw [z]; rfl, by simp⟩
theorem empty_dk {P : Program} {w : World} {h : Heap} {kvs : List (List Key × V)} {H' : Hp} (hk : kvs = []) (h1 : ObjOk P w H h a (.dT kvs)) : ObjOk P w H' h a (.dK []) := by
  subst hk
  obtain ⟨_, hs, xs, rel, o, es, ep, e1, e2, e3, e4, e5⟩ := h1
  cases rel
  have z : es = #[] := by
    cases es with
    | mk l =>
      have e4 : l = [] := e4
      rw [e4]
  subst z
  refine ⟨Nat.zero_le _, hs, [], .nil, o, #[], ep, e1, e2, e3, fun e he => absurd he (by simp), ?_, by simp⟩
  first
    | exact .nil
    | trivial
    | rfl
theorem Inv.dKT (I : Inv X pins σ H s) (e : H a = some (.dK [])) : Inv X pins σ (upd H a (.dT [])) s := by
  have q := I.hok a _ e
  obtain ⟨o, ho⟩ : ∃ o, s.heap.get? a = some o := by
    obtain ⟨_, hs, vs, rel, o, es, ep, e1, _⟩ := q
    exact ⟨o, e1⟩
  have J := I.write (t' := s.toks) (h' := s.heap) (x := a) (e := a) (o := .dT []) (by rw [e]; exact True.intro) (.inl rfl) (fun _ _ _ z => z) ⟨o, ho⟩ (empty_dt rfl q)
  exact J
theorem Inv.dTK (I : Inv X pins σ H s) (e : H a = some (.dT [])) : Inv X pins σ (upd H a (.dK [])) s := by
  have q := I.hok a _ e
  obtain ⟨o, ho⟩ : ∃ o, s.heap.get? a = some o := by
    obtain ⟨_, hs, vs, rel, o, es, ep, e1, _⟩ := q
    exact ⟨o, e1⟩
  exact I.write (t' := s.toks) (h' := s.heap) (x := a) (e := a) (o := .dK []) (by rw [e]; exact True.intro) (.inl rfl) (fun _ _ _ z => z) ⟨o, ho⟩ (empty_dk rfl q)
end
/-! ### asking a dict, an empty one with a key of either kind -/
def DGe (H : Hp) (a : Addr) (w : V) (o : Option V) : Prop := DGet H a w o ∨ (o = none ∧ ((∃ l b, w = .ref b ∧ H b = some (.tup ((l : List Key).map kV)) ∧ H a = some (.dK [])) ∨ ∃ k : Key, w = kV k ∧ H a = some (.dT [])))
section
variable {T : Tb} {X : Cx} {K : PySem.W.Frag} {W : WX} {C : Calls} {Hen : Hp} {G G1 : Gh} {P P1 : Option Pu} {H H0 H1 : Hp} {σ : St} {ρ : Sl} {Q Q' : VK} {r : R}
def rMem : Bool → R2 := fun neg x y H Q => ∃ a o, y = .ref a ∧ DGe H a x o ∧ Q (.bl (if neg then !o.isSome else o.isSome)) H
theorem op_mem (hu : X.A.units + 64 < cLine) : OpR X (compareOp .In) (rMem false) := by
  intro pins s σ H x y v u Q I rx ry h
  obtain ⟨a, o, e, g, q⟩ := h
  subst e
  cases ry
  rcases g with g | ⟨rfl, ⟨l, b, e, hb, ha⟩ | ⟨k, e, ha⟩⟩
  · exact d_in (by omega) I g rx fun s' I' => ⟨.bl _, H, I', rfl, q⟩
  · subst e
    have nb : b ≠ a := fun z => by rw [z, ha] at hb; cases hb
    refine d_in (by omega) (Inv.dKT I ha) (o := none) (DGet.t (kvs := []) (k := l) upd_same (by rw [upd_ne nb]; exact hb)) rx fun s' I' => ⟨.bl _, H, ?_, rfl, q⟩
    have J := Inv.dTK I' upd_same
    rw [upd_back ha] at J
    exact J
  · subst e
    refine d_in (by omega) (Inv.dTK I ha) (o := none) (DGet.k (kvs := []) (k := k) upd_same) rx fun s' I' => ⟨.bl _, H, ?_, rfl, q⟩
    have J := Inv.dKT I' upd_same
    rw [upd_back ha] at J
    exact J
theorem op_nmem (hu : X.A.units + 64 < cLine) : OpR X (compareOp .NotIn) (rMem true) := by
  intro pins s σ H x y v u Q I rx ry h
  obtain ⟨a, o, e, g, q⟩ := h
  subst e
  cases ry
  rcases g with g | ⟨rfl, ⟨l, b, e, hb, ha⟩ | ⟨k, e, ha⟩⟩
  · exact d_notIn (by omega) I g rx fun s' I' => ⟨.bl _, H, I', rfl, q⟩
  · subst e
    have nb : b ≠ a := fun z => by rw [z, ha] at hb; cases hb
    refine d_notIn (by omega) (Inv.dKT I ha) (o := none) (DGet.t (kvs := []) (k := l) upd_same (by rw [upd_ne nb]; exact hb)) rx fun s' I' => ⟨.bl _, H, ?_, rfl, q⟩
    have J := Inv.dTK I' upd_same
    rw [upd_back ha] at J
    exact J
  · subst e
    refine d_notIn (by omega) (Inv.dTK I ha) (o := none) (DGet.k (kvs := []) (k := k) upd_same) rx fun s' I' => ⟨.bl _, H, ?_, rfl, q⟩
    have J := Inv.dKT I' upd_same
    rw [upd_back ha] at J
    exact J
theorem key_cold {kd : D} {q : KeyD} {w : V} {m : Mode} (hq : kd.kd = some q) (hm : m ≠ .bor) (rk : RRes T K H0 G H kd w m) : Rep T G kd w := by
  cases m with
  | cold => exact rk
  | fresh =>
    obtain ⟨a, e, _, _, _, t⟩ := rk
    cases kd with
    | lst _ => cases hq
    | dct _ => cases hq
    | _ => exact t.elim
  | bor => exact absurd rfl hm
theorem dict_ge {kvs : List (D × D)} {kd : D} {q : KeyD} {v w : V} (sub : Same G.Hf H) (h : DictAt T G H kvs v) (hq : kd.kd = some q) (rk : Rep T G kd w) (hh : homog q kvs = true) :
    ∃ a o, v = .ref a ∧ DGe H a w o ∧ (∀ d, findK q kvs = some d → ∃ v, o = some v ∧ Rep T G d v) ∧ (findK q kvs = none → o = none) := by
  obtain ⟨a, e, h⟩ := h
  obtain ⟨o, g, h1, h2⟩ := dict_get sub h hq rk hh
  rcases g with g | ⟨z, eo⟩
  · exact ⟨a, o, e, .inl g, h1, h2⟩
  · subst z eo
    refine ⟨a, none, e, ?_, h1, h2⟩
    rcases kd_cases hq with ⟨k, rfl, ek⟩ | ⟨l, xs, rfl, rfl, el⟩
    · have ew := k1_rep ek rk
      subst ew
      rcases h with ⟨ks, e, rr⟩ | ⟨ks, e, rr⟩
      · unfold RepK at rr
        subst rr
        exact .inl (DGet.k e)
      · unfold RepT at rr
        subst rr
        exact .inr ⟨rfl, .inr ⟨k, rfl, e⟩⟩
    · unfold Rep at rk
      obtain ⟨b, vs, ew, hb, rl⟩ := rk
      subst ew
      have ev := k1L_rep el rl
      subst ev
      rcases h with ⟨ks, e, rr⟩ | ⟨ks, e, rr⟩
      · unfold RepK at rr
        subst rr
        exact .inr ⟨rfl, .inl ⟨l, b, rfl, sub _ _ hb, e⟩⟩
      · unfold RepT at rr
        subst rr
        exact .inl (DGet.t e (sub _ _ hb))
/-! ### comparisons in the language -/
def cmpOf : Cop → CmpOp
  | .eq => .Eq | .ne => .NotEq | .lt => .Lt | .le => .LtE | .gt => .Gt | .ge => .GtE | .is => .Is | .nis => .IsNot | .inn => .In | .nin => .NotIn
def rCmp (K : PySem.W.Frag) : Cop → R2
  | .eq => rEqP K false
  | .ne => rEqP K true
  | .lt => rLtP K false false
  | .le => rLtP K true true
  | .gt => rLtP K false true
  | .ge => rLtP K true false
  | .is => fun x y H Q => y = .non ∧ Q (.bl (decide (x = .non))) H
  | .nis => fun x y H Q => y = .non ∧ Q (.bl (!decide (x = .non))) H
  | .inn => fun x y H Q => rInP K false x y H Q ∨ rMem false x y H Q
  | .nin => fun x y H Q => rInP K true x y H Q ∨ rMem true x y H Q
theorem op_cmp (hu : X.A.units + 64 < cLine) : ∀ o : Cop, OpR X (compareOp (cmpOf o)) (rCmp X.K o)
  | .eq => op_eqP hu
  | .ne => op_neP hu
  | .lt => op_ltP hu
  | .le => op_leP hu
  | .gt => op_gtP hu
  | .ge => op_geP hu
  | .is => op_isN
  | .nis => op_notN
  | .inn => OpR.or (op_inP hu) (op_mem hu)
  | .nin => OpR.or (op_ninP hu) (op_nmem hu)
theorem eq_ok {x y : D} {b : Bool} {v w : V} {mx my : Mode} {H00 : Hp} (S : StOk T Hen G P H σ ρ) (rx : RRes T K H0 G H x v mx) (ry : RRes T K H00 G H y w my) (ev : eqD x y = some b) (neg : Bool) (q : Q (.bl (if neg then !b else b)) H) : rEqP K neg v w H Q := by
  unfold eqD at ev
  cases e1 : x.py with
  | none => rw [e1] at ev; cases ev
  | some d =>
    cases e2 : y.py with
    | none => rw [e1, e2] at ev; cases ev
    | some e =>
      rw [e1, e2] at ev
      dsimp only at ev
      split at ev
      · rename_i hz
        cases ev
        exact ⟨d, e, rx.dp S.sub e1, ry.dp S.sub e2, py_plain x e1, py_plain y e2, hz, q⟩
      · cases ev
theorem lt_py {x y : D} {b : Bool} (ev : ltD x y = some b) : ∃ d e, x.py = some d ∧ y.py = some e ∧ (PySem.W.alike d e = true ∧ PySem.W.alike e d = true) ∧ (d ≠ .none ∧ e ≠ .none) ∧ min d.depth e.depth ≤ 60 ∧ PySem.W.dataLt d e = b := by
  have gen : (match x.py, y.py with
    | some x, some y => if (PySem.W.alike x y && !isNone x) && (PySem.W.alike y x && decide (min x.depth y.depth ≤ 60)) then some (PySem.W.dataLt x y) else none
    | _, _ => none) = some b → ∃ d e, x.py = some d ∧ y.py = some e ∧ (PySem.W.alike d e = true ∧ PySem.W.alike e d = true) ∧ (d ≠ .none ∧ e ≠ .none) ∧ min d.depth e.depth ≤ 60 ∧ PySem.W.dataLt d e = b := by
    intro ev
    cases e1 : x.py with
    | none => rw [e1] at ev; cases ev
    | some d =>
      cases e2 : y.py with
      | none => rw [e1, e2] at ev; cases ev
      | some e =>
        rw [e1, e2] at ev
        dsimp only at ev
        split at ev
        · rename_i hz
          cases ev
          simp only [Bool.and_eq_true, decide_eq_true_eq] at hz
          obtain ⟨⟨h1, h2⟩, h3, h4⟩ := hz
          refine ⟨d, e, rfl, rfl, ⟨h1, h3⟩, ⟨fun z => (by rw [z] at h2; cases h2), fun z => ?_⟩, h4, rfl⟩
          subst z
          cases d with
          | none => cases h2
          | _ => cases h1
        · cases ev
  cases x with
  | int i =>
    cases y with
    | int j => cases ev; exact ⟨_, _, rfl, rfl, ⟨rfl, rfl⟩, ⟨(fun z => by cases z), fun z => by cases z⟩, by simp [PyData.depth], PySem.W.dataLt_int i j⟩
    | _ => exact gen ev
  | str i =>
    cases y with
    | str j => cases ev; exact ⟨_, _, rfl, rfl, ⟨rfl, rfl⟩, ⟨(fun z => by cases z), fun z => by cases z⟩, by simp [PyData.depth], PySem.W.dataLt_str i j⟩
    | _ => exact gen ev
  | _ => exact gen ev
theorem min_swap {a b : Nat} (h : min a b ≤ 60) : min b a ≤ 60 := by omega
theorem mem_ok {x y : D} {b : Bool} {v w : V} {mx my : Mode} {H00 : Hp} (S : StOk T Hen G P H σ ρ) (hm : mx ≠ .bor) (rx : RRes T K H0 G H x v mx) (ry : RRes T K H00 G H y w my) (ev : memD x y = some b) (neg : Bool) (q : Q (.bl (if neg then !b else b)) H) : rInP K neg v w H Q ∨ rMem neg v w H Q := by
  cases y with
  | lst ys =>
    left; left
    unfold memD inD at ev
    dsimp only at ev
    cases e2 : pyL ys with
    | none => rw [e2] at ev; cases ev
    | some l =>
      cases e1 : x.py with
      | none => rw [e1, e2] at ev; cases ev
      | some d =>
        rw [e1, e2] at ev
        dsimp only at ev
        split at ev
        · rename_i hz
          cases ev
          exact ⟨d, l, rx.dp S.sub e1, .inl (ry.dp S.sub (by unfold D.py; rw [e2])), pyL_plain ys e2, py_plain x e1, hz, q⟩
        · cases ev
  | tup ys =>
    left; left
    unfold memD inD at ev
    dsimp only at ev
    cases e2 : pyL ys with
    | none => rw [e2] at ev; cases ev
    | some l =>
      cases e1 : x.py with
      | none => rw [e1, e2] at ev; cases ev
      | some d =>
        rw [e1, e2] at ev
        dsimp only at ev
        split at ev
        · rename_i hz
          cases ev
          exact ⟨d, l, rx.dp S.sub e1, .inr (ry.dp S.sub (by unfold D.py; rw [e2])), pyL_plain ys e2, py_plain x e1, hz, q⟩
        · cases ev
  | dct kvs =>
    right
    unfold memD at ev
    dsimp only at ev
    cases e1 : x.kd with
    | none => rw [e1] at ev; cases ev
    | some k =>
      rw [e1] at ev
      dsimp only at ev
      split at ev
      · rename_i hh
        cases ev
        obtain ⟨a, o, e, g, h1, h2⟩ := dict_ge S.sub (ry.dict S.sub) e1 (key_cold e1 hm rx) hh
        refine ⟨a, o, e, g, ?_⟩
        have eo : o.isSome = (findK k kvs).isSome := by
          cases e3 : findK k kvs with
          | none => rw [h2 e3]; rfl
          | some d => obtain ⟨v, e4, _⟩ := h1 d e3; rw [e4]; rfl
        rw [eo]
        exact q
      · cases ev
  | _ => cases ev
theorem is_ok {x : D} {v : V} {m : Mode} (h : RRes T K H0 G H x v m) (hx : isRaw x = false) : decide (v = .non) = isNonD x := by
  have ref : ∀ a, v = .ref a → decide (v = .non) = false := fun a e => by rw [e]; rfl
  cases m with
  | cold =>
    cases x with
    | non => unfold RRes Rep at h; rw [h]; rfl
    | bl b => unfold RRes Rep at h; rw [h]; rfl
    | int b => unfold RRes Rep at h; rw [h]; rfl
    | str b => unfold RRes Rep at h; rw [h]; rfl
    | tup b => unfold RRes Rep at h; obtain ⟨a, _, e, _⟩ := h; exact ref a e
    | lst b => unfold RRes Rep at h; obtain ⟨a, _, e, _⟩ := h; exact ref a e
    | dct b => unfold RRes Rep at h; obtain ⟨a, e, _⟩ := h; exact ref a e
    | obj c b => unfold RRes Rep at h; obtain ⟨a, _, _, e, _⟩ := h; exact ref a e
    | pur => unfold RRes Rep at h; obtain ⟨a, _, e⟩ := h; exact ref a e
    | fn g => unfold RRes Rep at h; exact ref _ h
    | err c d => unfold RRes Rep at h; obtain ⟨a, _, _, e, _⟩ := h; exact ref a e
    | raw => cases hx
    | er0 c => unfold RRes Rep at h; obtain ⟨a, e, _⟩ := h; exact ref a e
  | fresh =>
    obtain ⟨a, e, _, _, _, t⟩ := h
    rw [ref a e]
    cases x with
    | non => exact t.elim
    | _ => rfl
  | bor =>
    obtain ⟨a, e, ⟨_, t⟩ | ⟨ds, vs, e2, q2, r2⟩⟩ := h
    · rw [ref a e]
      cases x with
      | non => exact t.elim
      | _ => rfl
    · rw [ref a e, e2]; rfl
theorem cmp_ok {o : Cop} {x y : D} {v w : V} {mx my : Mode} {H00 : Hp} (S : StOk T Hen G P H σ ρ) (rx : RRes T K H0 G H x v mx) (ry : RRes T K H00 G H y w my) {b : Bool} (ev : cmpM o mx x y = some b) (q : Q (.bl b) H) : rCmp K o v w H Q := by
  cases o with
  | eq => exact eq_ok S rx ry ev false q
  | ne =>
    obtain ⟨c, e, rfl⟩ := Option.map_eq_some_iff.mp (show (eqD x y).map (!·) = some b from ev)
    exact eq_ok S rx ry e true q
  | lt =>
    obtain ⟨d, e, e1, e2, ⟨h1, _⟩, ⟨n1, _⟩, hz, rfl⟩ := lt_py (show ltD x y = some b from ev)
    exact ⟨d, e, rx.dp S.sub e1, ry.dp S.sub e2, h1, n1, hz, q⟩
  | le =>
    obtain ⟨c, ec, rfl⟩ := Option.map_eq_some_iff.mp (show (ltD y x).map (!·) = some b from ev)
    obtain ⟨d, e, e1, e2, ⟨_, h1⟩, ⟨_, n1⟩, hz, rfl⟩ := lt_py ec
    exact ⟨e, d, rx.dp S.sub e2, ry.dp S.sub e1, h1, n1, min_swap hz, q⟩
  | gt =>
    obtain ⟨d, e, e1, e2, ⟨_, h1⟩, ⟨_, n1⟩, hz, rfl⟩ := lt_py (show ltD y x = some b from ev)
    exact ⟨e, d, rx.dp S.sub e2, ry.dp S.sub e1, h1, n1, min_swap hz, q⟩
  | ge =>
    obtain ⟨c, ec, rfl⟩ := Option.map_eq_some_iff.mp (show (ltD x y).map (!·) = some b from ev)
    obtain ⟨d, e, e1, e2, ⟨h1, _⟩, ⟨n1, _⟩, hz, rfl⟩ := lt_py ec
    exact ⟨d, e, rx.dp S.sub e1, ry.dp S.sub e2, h1, n1, hz, q⟩
  | is =>
    have ev : isD x y = some b := ev
    cases y with
    | non =>
      unfold isD at ev
      dsimp only at ev
      split at ev
      · cases ev
      · rename_i hx; cases ev; exact ⟨ry.non, by rw [is_ok rx (by simpa using hx)]; exact q⟩
    | _ => cases ev
  | nis =>
    obtain ⟨c, e, rfl⟩ := Option.map_eq_some_iff.mp (show (isD x y).map (!·) = some b from ev)
    cases y with
    | non =>
      unfold isD at e
      dsimp only at e
      split at e
      · cases e
      · rename_i hx; cases e; exact ⟨ry.non, by rw [is_ok rx (by simpa using hx)]; exact q⟩
    | _ => cases e
  | inn =>
    cases mx with
    | bor => cases ev
    | cold => exact mem_ok S (by decide) rx ry ev false q
    | fresh => exact mem_ok S (by decide) rx ry ev false q
  | nin =>
    have ev' : mx ≠ .bor ∧ (memD x y).map (!·) = some b := by
      cases mx with
      | bor => cases ev
      | cold => exact ⟨by decide, ev⟩
      | fresh => exact ⟨by decide, ev⟩
    obtain ⟨c, e, rfl⟩ := Option.map_eq_some_iff.mp ev'.2
    exact mem_ok S ev'.1 rx ry e true q
theorem s_cmp {o : Cop} {a b : Expr} {ea eb : E} {pos : Pos} (hu : X.A.units + 64 < cLine) (ha : PE X a (tE T X.K W C ea)) (hb : PE X b (tE T X.K W C eb)) (hm : behindInMarks (cmpOf o) b = false) : Snd T X W C (.Compare a [cmpOf o] [b] pos) (.cmp o ea eb) := by
  refine ⟨PE.imp (pe_cmpR (op_cmp hu o) ha hb hm) fun σ H Q ⟨Hen, G, ρ, P, r, S, ev, k⟩ => ?_, PT.imp (pt_cmpR (op_cmp hu o) ha hb hm) fun σ H Q ⟨Hen, G, ρ, P, r, S, ev, k⟩ => ?_⟩
  all_goals
    unfold evalE at ev
    refine thenE S ev k fun d m P1 v G1 H1 S1 r1 x1 ev1 k1 => ?_
    refine thenE S1 ev1 k1 fun e n P2 w G2 H2 S2 r2 x2 ev2 k2 => ?_
    cases e1 : cmpM o m d e with
    | none => rw [e1] at ev2; cases ev2
    | some c => ?_
    rw [e1] at ev2
    cases ev2
    exact cmp_ok S2 (r1.ext S1.pu x2 S2.pu) r2 e1 (k2.bl S2)
theorem s_chn {o p : Cop} {a b c : Expr} {ea eb ec : E} {pos : Pos} (hu : X.A.units + 64 < cLine) (ha : PE X a (tE T X.K W C ea)) (hb : PE X b (tE T X.K W C eb)) (hc : PE X c (tE T X.K W C ec))
    (hm : lastMarks [cmpOf o, cmpOf p] [b, c] = false) : Snd T X W C (.Compare a [cmpOf o, cmpOf p] [b, c] pos) (.chn o p ea eb ec) := by
  refine ⟨PE.imp (pe_chain (op_cmp hu o) (op_cmp hu p) ha hb hc hm) fun σ H Q ⟨Hen, G, ρ, P, r, S, ev, k⟩ => ?_, PT.imp (pt_chain (op_cmp hu o) (op_cmp hu p) ha hb hc hm) fun σ H Q ⟨Hen, G, ρ, P, r, S, ev, k⟩ => ?_⟩
  all_goals
    unfold evalE at ev
    refine thenE S ev k fun d m P1 v G1 H1 S1 r1 x1 ev1 k1 => ?_
    refine thenE S1 ev1 k1 fun e n P2 w G2 H2 S2 r2 x2 ev2 k2 => ?_
    cases e1 : cmpM o m d e with
    | none => rw [e1] at ev2; cases ev2
    | some z => ?_
    rw [e1] at ev2
    refine cmp_ok S2 (r1.ext S1.pu x2 S2.pu) r2 e1 ⟨z, rfl, ?_⟩
    cases z with
    | false => cases ev2; exact iteF (k2.bl S2)
    | true => ?_
    refine iteT (thenE S2 ev2 k2 fun f l P3 u G3 H3 S3 r3 x3 ev3 k3 => ?_)
    cases e3 : cmpM p n e f with
    | none => rw [e3] at ev3; cases ev3
    | some z2 => ?_
    rw [e3] at ev3
    cases ev3
    exact cmp_ok S3 (r2.ext S2.pu x3 S3.pu) r3 e3 (k3.bl S3)
end
end B


/-! .. items, slices, built-ins. -/
namespace B
open PySem PySem.Spec L2
section
variable {T : Tb} {X : Cx} {K : PySem.W.Frag} {W : WX} {C : Calls} {Hen : Hp} {G G1 : Gh} {P P1 : Option Pu} {H H0 H1 : Hp} {σ : St} {ρ : Sl} {Q Q' : VK} {r : R}
/-! ### items -/
def rIxD : R2 := fun x y H Q => ∃ a v, x = .ref a ∧ DGet H a y (some v) ∧ Q v H
theorem ix_dict (hu : X.A.units + 64 < cLine) : IxR X rIxD := by
  intro value slice pins s σ H x y v u Q I rx ry h hs
  obtain ⟨a, w, rfl, g, q⟩ := h
  cases rx
  exact PyProof.Rows.tail_any (dict_typeIs I g) F.slot_dict_getitem.lookup (d_getItem (by omega) I g ry fun w' s' I' rw' => ⟨w, H, I', rw', q⟩) hs
theorem IxR.or {r r' : R2} (h : IxR X r) (h' : IxR X r') : IxR X (fun x y H Q => r x y H Q ∨ r' x y H Q) := by
  intro value slice pins s σ H x y v u Q I rx ry q hs
  rcases q with q | q
  · exact h value slice pins s σ H x y v u Q I rx ry q hs
  · exact h' value slice pins s σ H x y v u Q I rx ry q hs
theorem repL_at {ds : List D} {vs : List V} {i : Int} {d : D} (r : RepL T G ds vs) (h : atI ds i = some d) : ∃ v, atI vs i = some v ∧ Rep T G d v := by
  unfold atI at h ⊢
  rw [r.length]
  cases e : ixN ds.length i with
  | none => rw [e] at h; cases h
  | some j =>
    rw [e] at h
    exact r.get h
theorem s_sub {a i : Expr} {ea ei : E} {pos : Pos} (hu : X.A.units + 64 < cLine) (ha : PE X a (tE T X.K W C ea)) (hi : PE X i (tE T X.K W C ei)) (hs : PlainIx i) : PE X (.Subscript a i pos) (tE T X.K W C (.sub ea ei)) := by
  refine PE.imp (pe_ix (IxR.or ix_seq (ix_dict hu)) ha hi hs) fun σ H Q ⟨Hen, G, ρ, P, r, S, ev, k⟩ => ?_
  unfold evalE at ev
  refine thenE S ev k fun x m P1 v G1 H1 S1 r1 x1 ev1 k1 => ?_
  refine thenE S1 ev1 k1 fun y n P2 w G2 H2 S2 r2 x2 ev2 k2 => ?_
  have r1 := r1.ext S1.pu x2 S2.pu
  cases e1 : subM n P2 x y with
  | none => rw [e1] at ev2; cases ev2
  | some d =>
    rw [e1] at ev2
    cases ev2
    have hn : n ≠ .bor := fun z => by rw [z] at e1; cases e1
    have e1 : subP P2 x y = some d := by
      cases n with
      | bor => exact absurd rfl hn
      | cold => exact e1
      | fresh => exact e1
    cases x with
    | lst xs =>
      cases y with
      | int j =>
        obtain ⟨p, vs, ep, hp, rl⟩ := r1.list S2.sub
        obtain ⟨z, hz, rz⟩ := repL_at rl (show atI xs j = some d from e1)
        exact .inl (.inl ⟨p, vs, j, z, ep, r2.int, .inl hp, hz, k2.scal S2 rz⟩)
      | _ => cases e1
    | tup xs =>
      cases y with
      | int j =>
        obtain ⟨p, vs, ep, hp, rl⟩ := r1.tuple S2.sub
        obtain ⟨z, hz, rz⟩ := repL_at rl (show atI xs j = some d from e1)
        exact .inl (.inr (.inl ⟨p, vs, j, z, ep, r2.int, hp, hz, k2.scal S2 rz⟩))
      | _ => cases e1
    | str x =>
      cases y with
      | int j =>
        have e1 : subD (.str x) (.int j) = some d := e1
        unfold subD at e1
        dsimp only at e1
        split at e1
        · rename_i hl
          obtain ⟨c, hc, e⟩ := Option.map_eq_some_iff.mp e1
          subst e
          exact .inl (.inr (.inr ⟨x, j, c, r1.str, r2.int, lim_line hl, hc, k2.str S2⟩))
        · cases e1
      | _ => cases e1
    | dct kvs =>
      have e1 : (match y.kd with
        | some q => if homog q kvs then findK q kvs else none
        | none => none) = some d := by
        cases y <;> exact e1
      cases e3 : y.kd with
      | none => rw [e3] at e1; cases e1
      | some q =>
        rw [e3] at e1
        dsimp only at e1
        split at e1
        · rename_i hh
          obtain ⟨a, o, e, g, h1, h2⟩ := dict_ge S2.sub (r1.dict S2.sub) e3 (key_cold e3 hn r2) hh
          obtain ⟨z, eo, rz⟩ := h1 d e1
          subst eo
          rcases g with g | ⟨z, _⟩
          · exact .inr ⟨a, z, e, g, k2.scal S2 rz⟩
          · cases z
        · cases e1
    | pur =>
      have rc : Rep T G2 .pur v := by
        cases m with
        | cold => exact r1
        | fresh => obtain ⟨a, _, _, _, _, t⟩ := r1; exact t.elim
        | bor => obtain ⟨a, e, ⟨_, t⟩ | ⟨_, _, z, _⟩⟩ := r1; exact t.elim; cases z
      unfold Rep at rc
      obtain ⟨A, hA, ew⟩ := rc
      obtain ⟨q, eq, h2, h3⟩ := S2.pu.at hA
      subst eq
      cases y with
      | int j =>
        have e1 : (atI [q.a, q.b, q.c, q.d] j).map D.int = some d := e1
        obtain ⟨z, hz, ez⟩ := Option.map_eq_some_iff.mp e1
        subst ez
        have hv : atI (puVs q) j = some (.int z) := by
          have : puVs q = [q.a, q.b, q.c, q.d].map V.int := rfl
          rw [this]
          unfold atI at hz ⊢
          rw [List.length_map]
          cases e : ixN [q.a, q.b, q.c, q.d].length j with
          | none => rw [e] at hz; cases hz
          | some n =>
            rw [e] at hz
            show ([q.a, q.b, q.c, q.d].map V.int)[n]? = _
            rw [List.getElem?_map]
            have hz : [q.a, q.b, q.c, q.d][n]? = some z := hz
            rw [hz]
            rfl
        exact .inl (.inl ⟨A, puVs q, j, .int z, ew, r2.int, .inl (.inl h2), hv, k2.int S2⟩)
      | _ => cases e1
    | _ => cases e1
/-! ### slices -/
def tO (T : Tb) (K : PySem.W.Frag) (W : WX) (C : Calls) (e : E) : TO := fun σ H Q => tE T K W C e σ H fun v H1 => (e.isOmit = true ∧ Q none H1) ∨ ∃ i, v = .int i ∧ Q (some i) H1
theorem PO.imp {X : Cx} {e : Option Expr} {t t' : TO} (h : PO X e t) (i : ∀ σ H Q, t' σ H Q → t σ H Q) : PO X e t' := ⟨fun pins s σ H Q I w => h.run pins s σ H Q I (i _ _ _ w)⟩
theorem s_omit : PO X none (tO T X.K W C .omit) := PO.imp po_none fun σ H Q ⟨Hen, G, ρ, P, r, S, ev, k⟩ => by
  unfold evalE at ev
  cases ev
  rcases k.non S with ⟨_, q⟩ | ⟨i, e, _⟩
  · exact q
  · cases e
theorem s_part {a : Expr} {e : E} (h : PE X a (tE T X.K W C e)) (hn : e.isOmit = false) : PO X (some a) (tO T X.K W C e) := PO.imp (po_some h) fun σ H Q ⟨Hen, G, ρ, P, r, S, ev, k⟩ => by
  refine ⟨Hen, G, ρ, P, r, S, ev, ?_⟩
  cases r with
  | exc c o d P => exact k
  | ok d m P =>
    intro v G' H' x pu rr
    rcases k v G' H' x pu rr with ⟨z, _⟩ | q
    · rw [hn] at z; cases z
    · exact q
theorem cut_rep {ds : List D} {vs : List V} (r : RepL T G ds vs) (lo hi : Option Int) : RepL T G (cutD ds lo hi) (cutV vs lo hi) := by
  unfold cutD cutV
  rw [r.length]
  have hd : ∀ (n : Nat) {ds : List D} {vs : List V}, RepL T G ds vs → RepL T G (ds.drop n) (vs.drop n) := by
    intro n
    induction n with
    | zero => intro ds vs h; exact h
    | succ n ih =>
      intro ds vs h
      cases ds with
      | nil => unfold RepL at h; rw [h]; simp only [List.drop_nil]; unfold RepL; rfl
      | cons d ds =>
        unfold RepL at h
        obtain ⟨v, t, e, _, h2⟩ := h
        rw [e]
        exact ih h2
  have ht : ∀ (n : Nat) {ds : List D} {vs : List V}, RepL T G ds vs → RepL T G (ds.take n) (vs.take n) := by
    intro n
    induction n with
    | zero => intro ds vs h; rw [List.take_zero, List.take_zero]; unfold RepL; rfl
    | succ n ih =>
      intro ds vs h
      cases ds with
      | nil => unfold RepL at h; rw [h]; simp only [List.take_nil]; unfold RepL; rfl
      | cons d ds =>
        unfold RepL at h
        obtain ⟨v, t, e, h1, h2⟩ := h
        rw [e, List.take_succ_cons, List.take_succ_cons]
        unfold RepL
        exact ⟨v, _, rfl, h1, ih h2⟩
  exact ht _ (hd _ r)
theorem s_slc {a : Expr} {lo hi : Option Expr} {ea el eh : E} {pos p2 : Pos} (ha : PE X a (tE T X.K W C ea)) (hl : PO X lo (tO T X.K W C el)) (hh : PO X hi (tO T X.K W C eh)) : PE X (.Subscript a (.Slice lo hi none p2) pos) (tE T X.K W C (.slc ea el eh)) := by
  refine PE.imp (pe_slice (SlR.or sl_list sl_str) ha hl hh) fun σ H Q ⟨Hen, G, ρ, P, r, S, ev, k⟩ => ?_
  unfold evalE at ev
  refine thenE S ev k fun x m P1 v G1 H1 S1 r1 x1 ev1 k1 => ?_
  refine thenE S1 ev1 k1 fun y n P2 w G2 H2 S2 r2 x2 ev2 k2 => ?_
  have r1 := r1.ext S1.pu x2 S2.pu
  cases el1 : bndD el.isOmit y with
  | none => rw [el1] at ev2; cases ev2
  | some l =>
    rw [el1] at ev2
    have step : tO T X.K W C eh σ H2 fun u H3 => rSlL X.K v l u H3 Q ∨ rSlS v l u H3 Q := by
      refine thenE S2 ev2 k2 fun z n3 P3 w3 G3 H3 S3 r3 x3 ev3 k3 => ?_
      have r1 := r1.ext S2.pu x3 S3.pu
      cases eh1 : bndD eh.isOmit z with
      | none => rw [eh1] at ev3; cases ev3
      | some h =>
        rw [eh1] at ev3
        have fin : rSlL X.K v l h H3 Q ∨ rSlS v l h H3 Q := by
          cases x with
          | lst xs =>
            cases ev3
            obtain ⟨p, vs, ep, hp, rl⟩ := r1.list S3.sub
            exact .inl ⟨p, vs, ep, .inl hp, fun p n => k3.newL S3 (cut_rep rl l h) n⟩
          | str x =>
            unfold slcD at ev3
            dsimp only at ev3
            by_cases hz : x.length ≤ LIM
            · rw [if_pos hz] at ev3
              cases ev3
              exact .inr ⟨x, r1.str, lim_line hz, k3.str S3⟩
            · rw [if_neg hz] at ev3; cases ev3
          | _ => cases ev3
        unfold bndD at eh1
        by_cases ho : eh.isOmit = true
        · rw [if_pos ho] at eh1
          cases eh1
          exact .inl ⟨ho, fin⟩
        · rw [if_neg ho] at eh1
          cases z with
          | int j => cases eh1; exact .inr ⟨j, r3.int, fin⟩
          | _ => cases eh1
    unfold bndD at el1
    by_cases ho : el.isOmit = true
    · rw [if_pos ho] at el1
      cases el1
      exact .inl ⟨ho, step⟩
    · rw [if_neg ho] at el1
      cases y with
      | int j => cases el1; exact .inr ⟨j, r2.int, step⟩
      | _ => cases el1
/-! ### built-ins of one argument -/
theorem CallR.or {f : Value} {r r' : List V → Hp → VK → Prop} (h : CallR X f r) (h' : CallR X f r') : CallR X f (fun xs H Q => r xs H Q ∨ r' xs H Q) := by
  intro pins s σ H xs us Q I rx q
  rcases q with q | q
  · exact h pins s σ H xs us Q I rx q
  · exact h' pins s σ H xs us Q I rx q
theorem boolsD_rep : ∀ {ds : List D} {bs : List Bool} {vs : List V}, boolsD ds = some bs → RepL T G ds vs → vs = bs.map V.bl
  | [], bs, vs, h, r => by cases h; unfold RepL at r; exact r
  | d :: ds, bs, vs, h, r => by
    cases d with
    | bl b =>
      unfold boolsD at h
      obtain ⟨l, e, rfl⟩ := Option.map_eq_some_iff.mp h
      unfold RepL at r
      obtain ⟨v, t, ev, r1, r2⟩ := r
      unfold Rep at r1
      rw [ev, r1, boolsD_rep e r2]
      rfl
    | _ => cases h
theorem intsD_rep : ∀ {ds : List D} {bs : List Int} {vs : List V}, intsD ds = some bs → RepL T G ds vs → vs = bs.map V.int
  | [], bs, vs, h, r => by cases h; unfold RepL at r; exact r
  | d :: ds, bs, vs, h, r => by
    cases d with
    | int b =>
      unfold intsD at h
      obtain ⟨l, e, rfl⟩ := Option.map_eq_some_iff.mp h
      unfold RepL at r
      obtain ⟨v, t, ev, r1, r2⟩ := r
      unfold Rep at r1
      rw [ev, r1, intsD_rep e r2]
      rfl
    | _ => cases h
theorem strsD_rep : ∀ {ds : List D} {bs : List Str} {vs : List V}, strsD ds = some bs → RepL T G ds vs → vs = bs.map V.str
  | [], bs, vs, h, r => by cases h; unfold RepL at r; exact r
  | d :: ds, bs, vs, h, r => by
    cases d with
    | str b =>
      unfold strsD at h
      obtain ⟨l, e, rfl⟩ := Option.map_eq_some_iff.mp h
      unfold RepL at r
      obtain ⟨v, t, ev, r1, r2⟩ := r
      unfold Rep at r1
      rw [ev, r1, strsD_rep e r2]
      rfl
    | _ => cases h
theorem RepK.length : ∀ {ds : List (D × D)} {vs : List (Key × V)}, RepK T G ds vs → vs.length = ds.length
  | [], vs, h => by unfold RepK at h; rw [h]; rfl
  | (k, d) :: ds, vs, h => by
    unfold RepK at h
    obtain ⟨q, v, r, e, _, _, h2⟩ := h
    rw [e, List.length_cons, List.length_cons, RepK.length h2]
theorem RepT.length : ∀ {ds : List (D × D)} {vs : List (List Key × V)}, RepT T G ds vs → vs.length = ds.length
  | [], vs, h => by unfold RepT at h; rw [h]; rfl
  | (k, d) :: ds, vs, h => by
    unfold RepT at h
    obtain ⟨q, v, r, e, _, _, h2⟩ := h
    rw [e, List.length_cons, List.length_cons, RepT.length h2]
def rLen (K : PySem.W.Frag) : List V → Hp → VK → Prop := fun xs H Q => (((∃ p ys, xs = [.ref p] ∧ (SqL K H p ys ∨ SqT K H p ys) ∧ Q (.int ys.length) H) ∨ ∃ z, xs = [.str z] ∧ z.length ≤ sizeLine ∧ Q (.int z.length) H) ∨
  ∃ a kvs, xs = [V.ref a] ∧ H a = some (.dK kvs) ∧ Q (.int kvs.length) H) ∨ rLenT xs H Q
theorem call_lenB : CallR X (.builtin "len") (rLen X.K) := CallR.or (CallR.or (CallR.or call_len_seq call_len_str) call_lenD) call_len_dT
theorem s_len {a : Expr} {ea : E} {p pos : Pos} (hg : Gl X "len") (hm : X.mg "len" = none) (ha : PE X a (tE T X.K W C ea)) (hs : starEach [a] X.env = [(false, eval a X.env)]) : PE X (.Call (.Name "len" p) [a] [] pos) (tE T X.K W C (.bi .len ea)) := by
  refine PE.imp (pe_callB call_lenB hg hm PySem.boot_len (pa_cons ha pa_nil hs) (he := hs)) fun σ H Q ⟨Hen, G, ρ, P, r, S, ev, k⟩ => ?_
  unfold evalE at ev
  refine thenE S ev k fun x m P1 v G1 H1 S1 r1 x1 ev1 k1 => ?_
  cases x with
  | lst xs =>
    cases ev1
    obtain ⟨p, vs, ep, hp, rl⟩ := r1.list S1.sub
    exact .inl (.inl (.inl ⟨p, vs, by rw [ep], .inl (.inl hp), by rw [rl.length]; exact k1.int S1⟩))
  | tup xs =>
    cases ev1
    obtain ⟨p, vs, ep, hp, rl⟩ := r1.tuple S1.sub
    exact .inl (.inl (.inl ⟨p, vs, by rw [ep], .inr hp, by rw [rl.length]; exact k1.int S1⟩))
  | dct kvs =>
    cases ev1
    obtain ⟨a, e, ⟨ks, q, rr⟩ | ⟨ks, q, rr⟩⟩ := r1.dict S1.sub
    · exact .inl (.inr ⟨a, ks, by rw [e], q, by rw [rr.length]; exact k1.int S1⟩)
    · exact .inr ⟨a, ks, by rw [e], q, by rw [rr.length]; exact k1.int S1⟩
  | str x =>
    unfold biM biD at ev1
    dsimp only at ev1
    by_cases hz : x.length ≤ LIM
    · rw [if_pos hz] at ev1
      cases ev1
      exact .inl (.inl (.inr ⟨x, by rw [r1.str], lim_line hz, k1.int S1⟩))
    · rw [if_neg hz] at ev1; cases ev1
  | _ => cases ev1
theorem s_all {a : Expr} {ea : E} {p pos : Pos} (hc : X.calm = true) (hg : Gl X "all") (hm : X.mg "all" = none) (ha : PE X a (tE T X.K W C ea)) (hs : starEach [a] X.env = [(false, eval a X.env)]) : PE X (.Call (.Name "all" p) [a] [] pos) (tE T X.K W C (.bi .all ea)) := by
  refine PE.imp (pe_callB (cr_all hc) hg hm (by decide +kernel) (pa_cons ha pa_nil hs) (he := hs)) fun σ H Q ⟨Hen, G, ρ, P, r, S, ev, k⟩ => ?_
  unfold evalE at ev
  refine thenE S ev k fun x m P1 v G1 H1 S1 r1 x1 ev1 k1 => ?_
  cases x with
  | lst xs =>
    unfold biM biD at ev1
    dsimp only at ev1
    cases e : boolsD xs with
    | none => rw [e] at ev1; cases ev1
    | some bs =>
      rw [e] at ev1
      cases ev1
      obtain ⟨p, vs, ep, hp, rl⟩ := r1.list S1.sub
      have ev := boolsD_rep e rl
      subst ev
      exact ⟨p, bs, by rw [ep], .inl hp, k1.bl S1⟩
  | _ => cases ev1
theorem s_any {a : Expr} {ea : E} {p pos : Pos} (hc : X.calm = true) (hg : Gl X "any") (hm : X.mg "any" = none) (ha : PE X a (tE T X.K W C ea)) (hs : starEach [a] X.env = [(false, eval a X.env)]) : PE X (.Call (.Name "any" p) [a] [] pos) (tE T X.K W C (.bi .any ea)) := by
  refine PE.imp (pe_callB (cr_any hc) hg hm (by decide +kernel) (pa_cons ha pa_nil hs) (he := hs)) fun σ H Q ⟨Hen, G, ρ, P, r, S, ev, k⟩ => ?_
  unfold evalE at ev
  refine thenE S ev k fun x m P1 v G1 H1 S1 r1 x1 ev1 k1 => ?_
  cases x with
  | lst xs =>
    unfold biM biD at ev1
    dsimp only at ev1
    cases e : boolsD xs with
    | none => rw [e] at ev1; cases ev1
    | some bs =>
      rw [e] at ev1
      cases ev1
      obtain ⟨p, vs, ep, hp, rl⟩ := r1.list S1.sub
      have ev := boolsD_rep e rl
      subst ev
      exact ⟨p, bs, by rw [ep], .inl hp, k1.bl S1⟩
  | _ => cases ev1
theorem s_sum {a : Expr} {ea : E} {p pos : Pos} (hc : X.calm = true) (hg : Gl X "sum") (hm : X.mg "sum" = none) (ha : PE X a (tE T X.K W C ea)) (hs : starEach [a] X.env = [(false, eval a X.env)]) : PE X (.Call (.Name "sum" p) [a] [] pos) (tE T X.K W C (.bi .sum ea)) := by
  refine PE.imp (pe_callB (cr_sum hc) hg hm (by decide +kernel) (pa_cons ha pa_nil hs) (he := hs)) fun σ H Q ⟨Hen, G, ρ, P, r, S, ev, k⟩ => ?_
  unfold evalE at ev
  refine thenE S ev k fun x m P1 v G1 H1 S1 r1 x1 ev1 k1 => ?_
  cases x with
  | lst xs =>
    unfold biM biD at ev1
    dsimp only at ev1
    cases e : intsD xs with
    | none => rw [e] at ev1; cases ev1
    | some bs =>
      rw [e] at ev1
      cases ev1
      obtain ⟨p, vs, ep, hp, rl⟩ := r1.list S1.sub
      have ev := intsD_rep e rl
      subst ev
      exact ⟨p, bs, by rw [ep], .inl hp, k1.int S1⟩
  | _ => cases ev1
theorem s_int {a : Expr} {ea : E} {p pos : Pos} (hg : Gl X "int") (hm : X.mg "int" = none) (ha : PE X a (tE T X.K W C ea)) (hs : starEach [a] X.env = [(false, eval a X.env)]) : PE X (.Call (.Name "int" p) [a] [] pos) (tE T X.K W C (.bi .int ea)) := by
  refine PE.imp (pe_callTy call_int1 hg hm (by decide +kernel) (pa_cons ha pa_nil hs) (he := hs)) fun σ H Q ⟨Hen, G, ρ, P, r, S, ev, k⟩ => ?_
  unfold evalE at ev
  refine thenE S ev k fun x m P1 v G1 H1 S1 r1 x1 ev1 k1 => ?_
  cases x with
  | int i => cases ev1; exact .inl ⟨i, by rw [r1.int], k1.int S1⟩
  | bl b => cases ev1; exact .inr ⟨b, by rw [r1.bl], k1.int S1⟩
  | _ => cases ev1
theorem s_max {a c : Expr} {ea ec : E} {p pos : Pos} (hc : X.calm = true) (hg : Gl X "max") (hm : X.mg "max" = none) (ha : PE X a (tE T X.K W C ea)) (hb : PE X c (tE T X.K W C ec))
    (hs : starEach [a, c] X.env = (false, eval a X.env) :: starEach [c] X.env) (hs2 : starEach [c] X.env = [(false, eval c X.env)]) : PE X (.Call (.Name "max" p) [a, c] [] pos) (tE T X.K W C (.bi2 .max ea ec)) := by
  refine PE.imp (pe_callB (call_max2 hc) hg hm (by decide +kernel) (pa_cons ha (pa_cons hb pa_nil hs2) hs) (he := hs) (hpl := by rw [hs2]; rfl)) fun σ H Q ⟨Hen, G, ρ, P, r, S, ev, k⟩ => ?_
  unfold evalE at ev
  refine thenE S ev k fun x m P1 v G1 H1 S1 r1 x1 ev1 k1 => ?_
  refine thenE S1 ev1 k1 fun y n P2 w G2 H2 S2 r2 x2 ev2 k2 => ?_
  cases x with
  | int i =>
    cases y with
    | int j => cases ev2; exact ⟨i, j, by rw [r1.int, r2.int], k2.int S2⟩
    | _ => cases ev2
  | _ => cases ev2
theorem s_min {a c : Expr} {ea ec : E} {p pos : Pos} (hc : X.calm = true) (hg : Gl X "min") (hm : X.mg "min" = none) (ha : PE X a (tE T X.K W C ea)) (hb : PE X c (tE T X.K W C ec))
    (hs : starEach [a, c] X.env = (false, eval a X.env) :: starEach [c] X.env) (hs2 : starEach [c] X.env = [(false, eval c X.env)]) : PE X (.Call (.Name "min" p) [a, c] [] pos) (tE T X.K W C (.bi2 .min ea ec)) := by
  refine PE.imp (pe_callB (call_min2 hc) hg hm (by decide +kernel) (pa_cons ha (pa_cons hb pa_nil hs2) hs) (he := hs) (hpl := by rw [hs2]; rfl)) fun σ H Q ⟨Hen, G, ρ, P, r, S, ev, k⟩ => ?_
  unfold evalE at ev
  refine thenE S ev k fun x m P1 v G1 H1 S1 r1 x1 ev1 k1 => ?_
  refine thenE S1 ev1 k1 fun y n P2 w G2 H2 S2 r2 x2 ev2 k2 => ?_
  cases x with
  | int i =>
    cases y with
    | int j => cases ev2; exact ⟨i, j, by rw [r1.int, r2.int], k2.int S2⟩
    | _ => cases ev2
  | _ => cases ev2
theorem s_bits {a : Expr} {ea : E} {apos pos : Pos} (ha : PE X a (tE T X.K W C ea)) (hbase : attributeBase a "bit_length" X.env (eval a X.env) = eval a X.env) (hline : (apos.endLine == pos.line) = true) :
    PE X (.Call (.Attribute a "bit_length" apos) [] [] pos) (tE T X.K W C (.bm .bitlen ea)) := by
  refine PE.imp (pe_bits ha hbase hline) fun σ H Q ⟨Hen, G, ρ, P, r, S, ev, k⟩ => ?_
  unfold evalE at ev
  refine thenE S ev k fun x m P1 v G1 H1 S1 r1 x1 ev1 k1 => ?_
  cases x with
  | int i => cases ev1; exact ⟨i, r1.int, k1.int S1⟩
  | _ => cases ev1
theorem s_join {a e : Expr} {ea ee : E} {apos pos : Pos} (ha : PE X a (tE T X.K W C ea)) (he : PE X e (tE T X.K W C ee)) (hs : starEach [e] X.env = [(false, eval e X.env)]) (hbase : attributeBase a "join" X.env (eval a X.env) = eval a X.env) (hline : (apos.endLine == pos.line) = true) :
    PE X (.Call (.Attribute a "join" apos) [e] [] pos) (tE T X.K W C (.bm1 .join ea ee)) := by
  refine PE.imp (pe_join ha he hs hbase hline) fun σ H Q ⟨Hen, G, ρ, P, r, S, ev, k⟩ => ?_
  unfold evalE at ev
  refine thenE S ev k fun x m P1 v G1 H1 S1 r1 x1 ev1 k1 => ?_
  cases x with
  | str x =>
    rw [if_pos (show recv Bm1.join (.str x) = true from rfl)] at ev1
    refine ⟨⟨x, r1.str⟩, thenE S1 ev1 k1 fun y n P2 w G2 H2 S2 r2 x2 ev2 k2 => ?_⟩
    cases y with
    | lst ys =>
      unfold bm1D at ev2
      dsimp only at ev2
      cases e : strsD ys with
      | none => rw [e] at ev2; cases ev2
      | some zs =>
        rw [e] at ev2
        dsimp only at ev2
        by_cases hz : (zs.map (·.length)).sum + x.length * zs.length ≤ LIM
        · rw [if_pos hz] at ev2
          cases ev2
          obtain ⟨p, vs, ep, hp, rl⟩ := r2.list S2.sub
          have ev := strsD_rep e rl
          subst ev
          refine ⟨x, p, zs, r1.str, by rw [ep], .inl (.inl hp), ?_, k2.str S2⟩
          rw [Nat.mul_comm zs.length x.length]
          unfold LIM at hz
          omega
        · rw [if_neg hz] at ev2; cases ev2
    | _ => cases ev2
  | _ => cases ev1
end
end B


/-! .. what is walked; comprehensions. -/
namespace B
open PySem PySem.Spec L2
section
variable {T : Tb} {X : Cx} {K : PySem.W.Frag} {W : WX} {C : Calls} {Hen : Hp} {G G1 : Gh} {P P1 : Option Pu} {H H0 H1 : Hp} {σ : St} {ρ : Sl} {Q Q' : VK} {r : R} {tg : Expr}
/-- what is walked, by values -/
def ItR (X : Cx) (tg : Expr) (c : V → Hp → (L2.It → Hp → Prop) → Prop) : Prop := ∀ (pins : List (Addr × Obj)) (s : Shared) (σ : St) (H : Hp) (x : V) (v : Value) (R : L2.It → Hp → Prop), Inv X pins σ H s → RelV x v → c x H R →
  wpAny (model X.prog X.w) X.A (pyIter v) (PIE X pins σ tg R) X.xe s
theorem pi_val {e : Expr} {te : TE} {c : V → Hp → (L2.It → Hp → Prop) → Prop} (he : PE X e te) (hr : ItR X tg c) : PI X tg e (fun σ H R => te σ H fun x H1 => c x H1 R) :=
  ⟨fun pins s σ H R I h => thn (he.run pins s σ H _ I h) fun v s1 ⟨x, H1, I1, r1, q1⟩ => hr pins s1 σ H1 x v R I1 r1 q1⟩
theorem ItR.or {c c' : V → Hp → (L2.It → Hp → Prop) → Prop} (h : ItR X tg c) (h' : ItR X tg c') : ItR X tg (fun x H R => c x H R ∨ c' x H R) := fun pins s σ H x v R I rx q =>
  q.elim (h pins s σ H x v R I rx) (h' pins s σ H x v R I rx)
theorem it_list : ItR X tg (fun x H R => ∃ a, x = .ref a ∧ (∃ xs, SqL X.K H a xs) ∧ R (Itl X.K a) H) := by
  intro pins s σ H x v R I rx h
  obtain ⟨a, e, ⟨xs, hq⟩, q⟩ := h
  subst e
  cases rx
  obtain ⟨its, rv, p, hz⟩ := I.list hq
  refine wpAny_pyIter_list p.isList ?_
  refine ⟨s.heap.objs.size, [s.heap.objs.size], _, _, H, rfl, I.kept (t' := s.toks) fun b o e => Heap.get?_push_of_some _ e, turn_list a _, ⟨_, Heap.get?_push_size _ rfl, rfl, rfl⟩, fun b hb => ?_, q⟩
  have e : b = s.heap.objs.size := by simpa using hb
  subst e
  exact I.fpOk (Nat.le_refl _) (I.hok.fresh (Nat.le_refl _))
theorem it_tup : ItR X tg (fun x H R => ∃ a, x = .ref a ∧ (∃ xs, SqT X.K H a xs) ∧ R (Itt X.K a) H) := by
  intro pins s σ H x v R I rx h
  obtain ⟨a, e, ⟨xs, hq⟩, q⟩ := h
  subst e
  cases rx
  obtain ⟨its, rv, p, hz⟩ := I.tuple hq
  refine wpAny_pyIter_tuple (show s.heap.IsTuple a its.toArray from p) ?_
  refine ⟨s.heap.objs.size, [s.heap.objs.size], _, _, H, rfl, I.kept (t' := s.toks) fun b o e => Heap.get?_push_of_some _ e, turn_tuple a _, ⟨_, Heap.get?_push_size _ rfl, rfl, rfl⟩, fun b hb => ?_, q⟩
  have e : b = s.heap.objs.size := by simpa using hb
  subst e
  exact I.fpOk (Nat.le_refl _) (I.hok.fresh (Nat.le_refl _))

theorem it_str : ItR X tg (fun x H R => ∃ y, x = .str y ∧ R (Its y) H) := by
  intro pins s σ H x v R I rx h
  obtain ⟨y, e, q⟩ := h
  subst e
  obtain ⟨t, rfl⟩ := rx
  cases ha : y.cps.all (· < 128)
  · exact wpAny_pyIter_wide ha (pi_one (tk := s.toks) I _ (turn_str _ y t "str_iterator" (.inr rfl)) ⟨_, Heap.get?_push_size _ rfl, rfl, rfl⟩ q)
  · exact wpAny_pyIter_ascii ha (pi_one (tk := s.toks) I _ (turn_str _ y t "str_ascii_iterator" (.inl rfl)) ⟨_, Heap.get?_push_size _ rfl, rfl, rfl⟩ q)
/-- the iterator J walks xs, while what is tracked stays -/
structure Wk (T : Tb) (G : Gh) (H : Hp) (J : L2.It) (xs : List D) : Prop where
  go : ∀ G' H' i, Ext G H G' H' → i < xs.length → J.go i H'
  stop : ∀ G' H' i, Ext G H G' H' → xs.length ≤ i → J.stop i H'
  yld : ∀ G' H' i x H'' d, Ext G H G' H' → J.yld i H' x H'' → xs[i]? = some d → H'' = H' ∧ Rep T G' d x
def KontI (T : Tb) (Z : Gh → Hp → L2.It → List D → Prop) (W : WX) (G : Gh) (H : Hp) (σ : St) (r : RL) (Q : L2.It → Hp → Prop) : Prop := match r with
  | .ok ds P => ∀ J G' H', Ext G H G' H' → PuOk G' P H' → Z G' H' J ds → Q J H'
  | .exc c o d P => ∀ v dd G' H', Ext G H G' H' → PuOk G' P H' → Rep T G' d v → H' dd = some (.xd [("value", v)]) → H dd = none → (∀ i, o = some i → σ[i]? = some (some v)) → W (.ref (T.ecl c)) (some dd) σ H'
def tItZ (T : Tb) (Z : Gh → Hp → L2.It → List D → Prop) (W : WX) (ev : Sl → Option Pu → Option RL) : TI := fun σ H Q => ∃ Hen G ρ P r, StOk T Hen G P H σ ρ ∧ ev ρ P = some r ∧ KontI T Z W G H σ r Q
def tIt (T : Tb) (W : WX) (C : Calls) (it : It) : TI := tItZ T (Wk T) W (evalIt C it)
theorem PI.imp {e : Expr} {t t' : TI} (h : PI X tg e t) (i : ∀ σ H Q, t' σ H Q → t σ H Q) : PI X tg e t' := ⟨fun pins s σ H Q I w => h.run pins s σ H Q I (i _ _ _ w)⟩
theorem RRes.listS {ds : List D} {v : V} {m : Mode} (h : RRes T K H0 G H (.lst ds) v m) : ∃ a vs, v = .ref a ∧ RepL T G ds vs ∧ ∀ G' H', Ext G H G' H' → Rd H' a (.lst vs) := by
  cases m with
  | cold => unfold RRes Rep at h; obtain ⟨a, vs, e, q, r⟩ := h; exact ⟨a, vs, e, r, fun G' H' x => .inl (x.sub _ _ (x.hf _ _ q))⟩
  | fresh => obtain ⟨a, e, _, np, _, vs, q, r⟩ := h; exact ⟨a, vs, e, r, fun G' H' x => .inl (x.keep a _ q np)⟩
  | bor => obtain ⟨a, e, ⟨np, vs, q, r⟩ | ⟨_, _, z, _⟩⟩ := h; exact ⟨a, vs, e, r, fun G' H' x => .inl (x.keep a _ q np)⟩; cases z
theorem RRes.tupS {ds : List D} {v : V} {m : Mode} (h : RRes T K H0 G H (.tup ds) v m) : ∃ a vs, v = .ref a ∧ RepL T G ds vs ∧ ∀ G' H', Ext G H G' H' → SqT K H' a vs := by
  cases m with
  | cold => unfold RRes Rep at h; obtain ⟨a, vs, e, q, r⟩ := h; exact ⟨a, vs, e, r, fun G' H' x => SqT.of (x.sub _ _ (x.hf _ _ q))⟩
  | fresh => obtain ⟨a, e, _, _, _, t⟩ := h; exact t.elim
  | bor => obtain ⟨a, e, ⟨_, t⟩ | ⟨es, vs, z, q, r⟩⟩ := h; exact t.elim; cases z; exact ⟨a, vs, e, r, fun G' H' x => .inr q⟩
theorem wk_list {ds : List D} {vs : List V} {a : Addr} (r : RepL T G ds vs) (st : ∀ G' H', Ext G H G' H' → Rd H' a (.lst vs)) : Wk T G H (Itl K a) ds where
  go := fun G' H' i x hi => ⟨vs, vs[i]'(by rw [r.length]; exact hi), .inl (st G' H' x), by simp⟩
  stop := fun G' H' i x hi => ⟨vs, .inl (st G' H' x), by rw [r.length]; exact hi⟩
  yld := fun G' H' i x H'' d e y hd => by
    obtain ⟨e1, y⟩ := y
    obtain ⟨v, hv, rv⟩ := r.get hd
    have := y vs (.inl (st G' H' e))
    rw [hv] at this
    cases this
    exact ⟨e1, Rep.mono e.hf e.p d rv⟩
theorem wk_tup {ds : List D} {vs : List V} {a : Addr} (r : RepL T G ds vs) (st : ∀ G' H', Ext G H G' H' → SqT K H' a vs) : Wk T G H (Itt K a) ds where
  go := fun G' H' i x hi => ⟨vs, vs[i]'(by rw [r.length]; exact hi), st G' H' x, by simp⟩
  stop := fun G' H' i x hi => ⟨vs, st G' H' x, by rw [r.length]; exact hi⟩
  yld := fun G' H' i x H'' d e y hd => by
    obtain ⟨e1, y⟩ := y
    obtain ⟨v, hv, rv⟩ := r.get hd
    have := y vs (st G' H' e)
    rw [hv] at this
    cases this
    exact ⟨e1, Rep.mono e.hf e.p d rv⟩
theorem wk_str {x : Str} : Wk T G H (Its x) (x.cps.toList.map fun c => .str ⟨#[c]⟩) where
  go := fun G' H' i _ hi => by simpa [Its] using hi
  stop := fun G' H' i _ hi => by simpa [Its] using hi
  yld := fun G' H' i v H'' d e y hd => by
    obtain ⟨e1, c, hc, ev⟩ := y
    refine ⟨e1, ?_⟩
    rw [List.getElem?_map] at hd
    have hc' : x.cps.toList[i]? = some c := by rw [Array.getElem?_toList]; exact hc
    rw [hc'] at hd
    cases hd
    unfold Rep
    exact ev
theorem upTo_len : ∀ (n : Nat) (lo : Int), (upTo lo n).length = n
  | 0, lo => rfl
  | n + 1, lo => by unfold upTo; rw [List.length_cons, upTo_len n]
theorem upTo_get : ∀ (n : Nat) (lo : Int) (i : Nat), i < n → (upTo lo n)[i]? = some (.int (lo + i))
  | 0, lo, i, h => absurd h (Nat.not_lt_zero _)
  | n + 1, lo, 0, h => by unfold upTo; simp
  | n + 1, lo, i + 1, h => by
    unfold upTo
    rw [List.getElem?_cons_succ, upTo_get n (lo + 1) i (by omega)]
    congr 2
    omega
theorem wk_rng {lo : Int} {n : Nat} : Wk T G H (Itr lo n) (upTo lo n) where
  go := fun G' H' i _ hi => by rw [upTo_len] at hi; exact hi
  stop := fun G' H' i _ hi => by rw [upTo_len] at hi; exact hi
  yld := fun G' H' i v H'' d e y hd => by
    obtain ⟨e1, ev⟩ := y
    refine ⟨e1, ?_⟩
    by_cases hi : i < n
    · rw [upTo_get n lo i hi] at hd
      cases hd
      unfold Rep
      exact ev
    · rw [List.getElem?_eq_none (by rw [upTo_len]; omega)] at hd
      cases hd
theorem s_itval {e : Expr} {a : E} (he : PE X e (tE T X.K W C a)) : PI X tg e (tIt T W C (.val a)) := by
  refine PI.imp (pi_val he (ItR.or it_list (ItR.or it_tup it_str))) fun σ H R ⟨Hen, G, ρ, P, r, S, ev, k⟩ => ?_
  unfold evalIt at ev
  cases e1 : evalE C a ρ P with
  | none => rw [e1] at ev; cases ev
  | some ra =>
    rw [e1] at ev
    refine ⟨Hen, G, ρ, P, ra, S, e1, ?_⟩
    cases ra with
    | exc c o d P' => cases ev; exact k
    | ok d m P' =>
      intro v G1 H1 x pu rr
      have ev : (match itemsOf d with
        | some xs => if xs.length ≤ LIM then some (RL.ok xs P') else none
        | none => none) = some r := ev
      cases e2 : itemsOf d with
      | none => rw [e2] at ev; cases ev
      | some xs =>
        rw [e2] at ev
        have ev : (if xs.length ≤ LIM then some (RL.ok xs P') else none) = some r := ev
        split at ev
        · rename_i hl
          cases ev
          have k : ∀ J G' H', Ext G H G' H' → PuOk G' P' H' → Wk T G' H' J xs → R J H' := k
          cases d with
          | lst ds =>
            cases e2
            obtain ⟨a, vs, ev, rl, st⟩ := rr.listS
            exact .inl ⟨a, ev, ⟨vs, .inl (st G1 H1 (Ext.refl x.sub))⟩, k _ G1 H1 x pu (wk_list rl st)⟩
          | tup ds =>
            cases e2
            obtain ⟨a, vs, ev, rl, st⟩ := rr.tupS
            exact .inr (.inl ⟨a, ev, ⟨vs, st G1 H1 (Ext.refl x.sub)⟩, k _ G1 H1 x pu (wk_tup rl st)⟩)
          | str y =>
            simp only [itemsOf] at e2
            split at e2
            · cases e2
              exact .inr (.inr ⟨y, rr.str, k _ G1 H1 x pu wk_str⟩)
            · cases e2
          | _ => cases e2
        · cases ev
theorem s_rngZ {Z : Gh → Hp → L2.It → List D → Prop} (hz : ∀ G H lo n, Z G H (Itr lo n) (upTo lo n)) {p pos : Pos} {e : Expr} {a : E} (hg : Gl X "range") (hm : X.mg "range" = none) (he : PE X e (tE T X.K W C a)) (hs : starEach [e] X.env = [(false, eval e X.env)]) : PI X tg (.Call (.Name "range" p) [e] [] pos) (tItZ T Z W (evalIt C (.rng a))) := by
  refine PI.imp (pi_range1 hg hm (pa_cons he pa_nil hs) hs) fun σ H R ⟨Hen, G, ρ, P, r, S, ev, k⟩ => ?_
  unfold evalIt at ev
  cases e1 : evalE C a ρ P with
  | none => rw [e1] at ev; cases ev
  | some ra =>
    rw [e1] at ev
    refine ⟨Hen, G, ρ, P, ra, S, e1, ?_⟩
    cases ra with
    | exc c o d P' => cases ev; exact k
    | ok d m P' =>
      intro v G1 H1 x pu rr
      cases d with
      | int n =>
        have ev : (if n ≤ LIM ∧ -LIM ≤ n then some (RL.ok (upTo 0 n.toNat) P') else none) = some r := ev
        split at ev
        · rename_i hl
          cases ev
          unfold LIM at hl
          exact ⟨n, by rw [rr.int], by omega, by omega, k _ G1 H1 x pu (hz _ _ _ _)⟩
        · cases ev
      | _ => cases ev
theorem s_rng2Z {Z : Gh → Hp → L2.It → List D → Prop} (hz : ∀ G H lo n, Z G H (Itr lo n) (upTo lo n)) {p pos : Pos} {e f : Expr} {a b : E} (hg : Gl X "range") (hm : X.mg "range" = none) (he : PE X e (tE T X.K W C a)) (hf : PE X f (tE T X.K W C b)) (hs : starEach [e, f] X.env = [(false, eval e X.env), (false, eval f X.env)]) (hs2 : starEach [f] X.env = [(false, eval f X.env)]) :
    PI X tg (.Call (.Name "range" p) [e, f] [] pos) (tItZ T Z W (evalIt C (.rng2 a b))) := by
  refine PI.imp (pi_range2 hg hm (pa_cons he (pa_cons hf pa_nil hs2) (by rw [hs, hs2])) hs hs2) fun σ H R ⟨Hen, G, ρ, P, r, S, ev, k⟩ => ?_
  unfold evalIt at ev
  cases e1 : evalE C a ρ P with
  | none => rw [e1] at ev; cases ev
  | some ra =>
    rw [e1] at ev
    refine ⟨Hen, G, ρ, P, ra, S, e1, ?_⟩
    cases ra with
    | exc c o d P' => cases ev; exact k
    | ok d m P' =>
      intro v G1 H1 x pu rr
      cases d with
      | int lo =>
        have ev : (match evalE C b ρ P' with
          | some (.ok (.int hi) _ P) => if (-LIM ≤ lo ∧ lo ≤ LIM) ∧ (-LIM ≤ hi ∧ hi ≤ LIM) ∧ (hi - lo).toNat ≤ LIM then some (RL.ok (upTo lo (hi - lo).toNat) P) else none
          | some (.exc c o d P) => some (.exc c o d P)
          | _ => none) = some r := ev
        cases e2 : evalE C b ρ P' with
        | none => rw [e2] at ev; cases ev
        | some rb =>
          rw [e2] at ev
          refine ⟨Hen, G1, ρ, P', rb, S.ext x pu, e2, ?_⟩
          cases rb with
          | exc c o d P2 =>
            cases ev
            exact fun w dd G3 H3 y pu3 rr3 e3 n3 ho => k w dd G3 H3 (x.trans pu y) pu3 rr3 e3 (x.back pu n3) ho
          | ok d2 m2 P2 =>
            intro v2 G2 H2 x2 pu2 rr2
            cases d2 with
            | int hi =>
              have ev : (if (-LIM ≤ lo ∧ lo ≤ LIM) ∧ (-LIM ≤ hi ∧ hi ≤ LIM) ∧ (hi - lo).toNat ≤ LIM then some (RL.ok (upTo lo (hi - lo).toNat) P2) else none) = some r := ev
              split at ev
              · rename_i hl
                cases ev
                unfold LIM at hl
                exact ⟨lo, hi, by rw [rr.int, rr2.int], ⟨by omega, by omega, by omega, by omega⟩, k _ G2 H2 (x.trans pu x2) pu2 (hz _ _ _ _)⟩
              · cases ev
            | _ => cases ev
      | _ => cases ev
theorem s_rng {p pos : Pos} {e : Expr} {a : E} (hg : Gl X "range") (hm : X.mg "range" = none) (he : PE X e (tE T X.K W C a)) (hs : starEach [e] X.env = [(false, eval e X.env)]) : PI X tg (.Call (.Name "range" p) [e] [] pos) (tIt T W C (.rng a)) := s_rngZ (fun _ _ _ _ => wk_rng) hg hm he hs
theorem s_rng2 {p pos : Pos} {e f : Expr} {a b : E} (hg : Gl X "range") (hm : X.mg "range" = none) (he : PE X e (tE T X.K W C a)) (hf : PE X f (tE T X.K W C b)) (hs : starEach [e, f] X.env = [(false, eval e X.env), (false, eval f X.env)]) (hs2 : starEach [f] X.env = [(false, eval f X.env)]) :
    PI X tg (.Call (.Name "range" p) [e, f] [] pos) (tIt T W C (.rng2 a b)) := s_rng2Z (fun _ _ _ _ => wk_rng) hg hm he hf hs hs2
/-! ### a for's walk: only what is told stays -/
structure TEx (G G' : Gh) (H' : Hp) : Prop where
  hf : Same G.Hf G'.Hf
  p : G'.p = G.p
  sub : Same G'.Hf H'
structure WkF (T : Tb) (G : Gh) (J : L2.It) (xs : List D) : Prop where
  go : ∀ G' H' i, TEx G G' H' → i < xs.length → J.go i H'
  stop : ∀ G' H' i, TEx G G' H' → xs.length ≤ i → J.stop i H'
  yld : ∀ G' H' i x H'' d, TEx G G' H' → J.yld i H' x H'' → xs[i]? = some d → H'' = H' ∧ Rep T G' d x
def tItF (T : Tb) (W : WX) (C : Calls) (it : It) : TI := tItZ T (fun G _ => WkF T G) W (evalItF C it)
theorem wkF_list {ds : List D} {vs : List V} {a : Addr} (r : RepL T G ds vs) (q : Rd G.Hf a (.lst vs)) : WkF T G (Itl K a) ds where
  go := fun G' H' i x hi => ⟨vs, vs[i]'(by rw [r.length]; exact hi), .inl (Rd_mono (x.hf.trans x.sub) q), by simp⟩
  stop := fun G' H' i x hi => ⟨vs, .inl (Rd_mono (x.hf.trans x.sub) q), by rw [r.length]; exact hi⟩
  yld := fun G' H' i x H'' d e y hd => by
    obtain ⟨e1, y⟩ := y
    obtain ⟨v, hv, rv⟩ := r.get hd
    have := y vs (.inl (Rd_mono (e.hf.trans e.sub) q))
    rw [hv] at this
    cases this
    exact ⟨e1, Rep.mono e.hf e.p d rv⟩
theorem wkF_tup {ds : List D} {vs : List V} {a : Addr} (r : RepL T G ds vs) (q : G.Hf a = some (.tup vs)) : WkF T G (Itt K a) ds where
  go := fun G' H' i x hi => ⟨vs, vs[i]'(by rw [r.length]; exact hi), SqT.of (x.sub _ _ (x.hf _ _ q)), by simp⟩
  stop := fun G' H' i x hi => ⟨vs, SqT.of (x.sub _ _ (x.hf _ _ q)), by rw [r.length]; exact hi⟩
  yld := fun G' H' i x H'' d e y hd => by
    obtain ⟨e1, y⟩ := y
    obtain ⟨v, hv, rv⟩ := r.get hd
    have := y vs (SqT.of (e.sub _ _ (e.hf _ _ q)))
    rw [hv] at this
    cases this
    exact ⟨e1, Rep.mono e.hf e.p d rv⟩
theorem wkF_str {x : Str} : WkF T G (Its x) (x.cps.toList.map fun c => .str ⟨#[c]⟩) where
  go := fun G' H' i _ hi => by simpa [Its] using hi
  stop := fun G' H' i _ hi => by simpa [Its] using hi
  yld := fun G' H' i v H'' d e y hd => by
    obtain ⟨e1, c, hc, ev⟩ := y
    refine ⟨e1, ?_⟩
    rw [List.getElem?_map] at hd
    have hc' : x.cps.toList[i]? = some c := by rw [Array.getElem?_toList]; exact hc
    rw [hc'] at hd
    cases hd
    unfold Rep
    exact ev
theorem wkF_rng {lo : Int} {n : Nat} : WkF T G (Itr lo n) (upTo lo n) where
  go := fun G' H' i _ hi => by rw [upTo_len] at hi; exact hi
  stop := fun G' H' i _ hi => by rw [upTo_len] at hi; exact hi
  yld := fun G' H' i v H'' d e y hd => by
    obtain ⟨e1, ev⟩ := y
    refine ⟨e1, ?_⟩
    by_cases hi : i < n
    · rw [upTo_get n lo i hi] at hd
      cases hd
      unfold Rep
      exact ev
    · rw [List.getElem?_eq_none (by rw [upTo_len]; omega)] at hd
      cases hd
theorem s_rngF {p pos : Pos} {e : Expr} {a : E} (hg : Gl X "range") (hm : X.mg "range" = none) (he : PE X e (tE T X.K W C a)) (hs : starEach [e] X.env = [(false, eval e X.env)]) : PI X tg (.Call (.Name "range" p) [e] [] pos) (tItF T W C (.rng a)) := s_rngZ (fun _ _ _ _ => wkF_rng) hg hm he hs
theorem s_rng2F {p pos : Pos} {e f : Expr} {a b : E} (hg : Gl X "range") (hm : X.mg "range" = none) (he : PE X e (tE T X.K W C a)) (hf : PE X f (tE T X.K W C b)) (hs : starEach [e, f] X.env = [(false, eval e X.env), (false, eval f X.env)]) (hs2 : starEach [f] X.env = [(false, eval f X.env)]) :
    PI X tg (.Call (.Name "range" p) [e, f] [] pos) (tItF T W C (.rng2 a b)) := s_rng2Z (fun _ _ _ _ => wkF_rng) hg hm he hf hs hs2
theorem s_itvalF {e : Expr} {a : E} (he : PE X e (tE T X.K W C a)) : PI X tg e (tItF T W C (.val a)) := by
  refine PI.imp (pi_val he (ItR.or it_list (ItR.or it_tup it_str))) fun σ H R ⟨Hen, G, ρ, P, r, S, ev, k⟩ => ?_
  have ev : (match evalE C a ρ P with
      | some (.ok _ .bor _) => none
      | some (.ok d _ P) => match itemsOf d with
        | some xs => if xs.length ≤ LIM then some (.ok xs P) else none
        | none => none
      | some (.exc c o d P) => some (.exc c o d P)
      | none => none) = some r := ev
  cases e1 : evalE C a ρ P with
  | none => rw [e1] at ev; cases ev
  | some ra =>
    rw [e1] at ev
    refine ⟨Hen, G, ρ, P, ra, S, e1, ?_⟩
    cases ra with
    | exc c o d P' => cases ev; exact k
    | ok d m P' =>
      intro v G1 H1 x pu rr
      have hm : m ≠ .bor := fun z => by subst z; cases ev
      have ev : (match itemsOf d with
        | some xs => if xs.length ≤ LIM then some (RL.ok xs P') else none
        | none => none) = some r := by
        cases m with
        | bor => exact absurd rfl hm
        | cold => exact ev
        | fresh => exact ev
      obtain ⟨G2, ep, s1, s2, s3, pu2, rep⟩ := rr.freeze x.sub hm pu fun _ _ => trivial
      have x2 : Ext G H G2 H1 := ⟨x.hf.trans s1, ep.trans x.p, s2, fun b o q => (s3 b o q).elim (x.new b o) .inr, x.keep⟩
      cases e2 : itemsOf d with
      | none => rw [e2] at ev; cases ev
      | some xs =>
        rw [e2] at ev
        have ev : (if xs.length ≤ LIM then some (RL.ok xs P') else none) = some r := ev
        split at ev
        · rename_i hl
          cases ev
          have k : ∀ J G' H', Ext G H G' H' → PuOk G' P' H' → WkF T G' J xs → R J H' := k
          cases d with
          | lst ds =>
            cases e2
            unfold Rep at rep
            obtain ⟨a, vs, ev, q, rl⟩ := rep
            exact .inl ⟨a, ev, ⟨vs, .inl (.inl (s2 _ _ q))⟩, k _ G2 H1 x2 pu2 (wkF_list rl (.inl q))⟩
          | tup ds =>
            cases e2
            unfold Rep at rep
            obtain ⟨a, vs, ev, q, rl⟩ := rep
            exact .inr (.inl ⟨a, ev, ⟨vs, SqT.of (s2 _ _ q)⟩, k _ G2 H1 x2 pu2 (wkF_tup rl q)⟩)
          | str y =>
            simp only [itemsOf] at e2
            split at e2
            · cases e2
              exact .inr (.inr ⟨y, rr.str, k _ G2 H1 x2 pu2 wkF_str⟩)
            · cases e2
          | _ => cases e2
        · cases ev
/-! ### targets -/
theorem StOk.setNo (S : StOk T Hen G P H σ ρ) (i : Nat) : StOk T Hen G P H (σ.set i none) (ρ.set i .no) where
  sub := S.sub
  pu := S.pu
  len := by rw [List.length_set, List.length_set]; exact S.len
  cold := fun j d e => by
    by_cases h : i = j
    · subst h
      rw [List.getElem?_set_self' ] at e
      cases q : ρ[i]? <;> rw [q] at e <;> cases e
    · rw [List.getElem?_set_ne h] at e ⊢; exact S.cold j d e
  own := fun j d e => by
    by_cases h : i = j
    · subst h
      rw [List.getElem?_set_self' ] at e
      cases q : ρ[i]? <;> rw [q] at e <;> cases e
    · rw [List.getElem?_set_ne h] at e ⊢; exact S.own j d e
  dist := fun j k d e a h1 h2 h3 h4 => by
    by_cases hj : i = j
    · subst hj
      rw [List.getElem?_set_self' ] at h1
      cases q : ρ[i]? <;> rw [q] at h1 <;> cases h1
    · by_cases hk : i = k
      · subst hk
        rw [List.getElem?_set_self' ] at h2
        cases q : ρ[i]? <;> rw [q] at h2 <;> cases h2
      · rw [List.getElem?_set_ne hj] at h1 h3
        rw [List.getElem?_set_ne hk] at h2 h4
        exact S.dist j k d e a h1 h2 h3 h4
  ent := S.ent
theorem StOk.setCold (S : StOk T Hen G P H σ ρ) (i : Nat) {d : D} {v : V} (r : Rep T G d v) : StOk T Hen G P H (σ.set i (some v)) (ρ.set i (.cold d)) where
  sub := S.sub
  pu := S.pu
  len := by rw [List.length_set, List.length_set]; exact S.len
  cold := fun j e h => by
    by_cases hj : i = j
    · subst hj
      have hl : i < ρ.length := by
        by_cases hl : i < ρ.length
        · exact hl
        · rw [List.getElem?_eq_none (by rw [List.length_set]; omega)] at h; cases h
      rw [List.getElem?_set_self hl] at h
      cases h
      exact ⟨v, List.getElem?_set_self (by rw [← S.len]; exact hl), r⟩
    · rw [List.getElem?_set_ne hj] at h ⊢; exact S.cold j e h
  own := fun j e h => by
    by_cases hj : i = j
    · subst hj
      rw [List.getElem?_set_self' ] at h
      cases q : ρ[i]? <;> rw [q] at h <;> cases h
    · rw [List.getElem?_set_ne hj] at h ⊢; exact S.own j e h
  dist := fun j k d e a h1 h2 h3 h4 => by
    by_cases hj : i = j
    · subst hj
      rw [List.getElem?_set_self' ] at h1
      cases q : ρ[i]? <;> rw [q] at h1 <;> cases h1
    · by_cases hk : i = k
      · subst hk
        rw [List.getElem?_set_self' ] at h2
        cases q : ρ[i]? <;> rw [q] at h2 <;> cases h2
      · rw [List.getElem?_set_ne hj] at h1 h3
        rw [List.getElem?_set_ne hk] at h2 h4
        exact S.dist j k d e a h1 h2 h3 h4
  ent := S.ent
theorem StOk.wipe (S : StOk T Hen G P H σ ρ) : ∀ vs : List Nat, StOk T Hen G P H (L2.wipe σ vs) (wipeS ρ vs)
  | [] => S
  | v :: vs => (StOk.wipe S vs).setNo v
theorem wipe_get (σ : St) (j : Nat) : ∀ vs : List Nat, (L2.wipe σ vs)[j]? = if j ∈ vs then (σ[j]?).map (fun _ => none) else σ[j]?
  | [] => by simp [L2.wipe]
  | v :: vs => by
    show ((L2.wipe σ vs).set v none)[j]? = _
    by_cases h : v = j
    · subst h
      rw [List.getElem?_set_self', wipe_get σ v vs]
      simp only [List.mem_cons, true_or, if_true]
      split <;> cases σ[v]? <;> rfl
    · rw [List.getElem?_set_ne h, wipe_get σ j vs]
      have : (j ∈ v :: vs) ↔ j ∈ vs := by rw [List.mem_cons]; exact ⟨fun z => z.elim (fun e => absurd e.symm h) id, .inr⟩
      simp only [this]
theorem wipe_eq {σ τ : St} {vs : List Nat} (hl : σ.length = τ.length) (h : ∀ j, j ∉ vs → σ[j]? = τ[j]?) : L2.wipe σ vs = L2.wipe τ vs := by
  apply List.ext_getElem?
  intro j
  rw [wipe_get, wipe_get]
  split
  · by_cases q : j < σ.length
    · rw [List.getElem?_eq_getElem q, List.getElem?_eq_getElem (hl ▸ q)]; rfl
    · rw [List.getElem?_eq_none (by omega), List.getElem?_eq_none (by omega)]
  · rename_i hj; exact h j hj
/-- a target takes the item -/
def tTg (T : Tb) (tg : Tg) : TG := fun x σ H Q => ∃ Hen G ρ P d ρ', StOk T Hen G P H σ ρ ∧ Rep T G d x ∧ tg.put d ρ = some ρ' ∧ ∀ σ', StOk T Hen G P H σ' ρ' → σ'.length = σ.length → (∀ j, j ∉ tg.slots → σ'[j]? = σ[j]?) → Q σ' H
def tTgs (T : Tb) (is : List Nat) : TGs := fun xs σ H Q => ∃ Hen G ρ P ds ρ', StOk T Hen G P H σ ρ ∧ RepL T G ds xs ∧ setAll ρ is ds = some ρ' ∧ ∀ σ', StOk T Hen G P H σ' ρ' → σ'.length = σ.length → (∀ j, j ∉ is → σ'[j]? = σ[j]?) → Q σ' H
theorem PG.imp {e : Expr} {t t' : TG} (h : PG X e t) (i : ∀ x σ H Q, t' x σ H Q → t x σ H Q) : PG X e t' := ⟨fun pins s σ H v u Q I r w => h.run pins s σ H v u Q I r (i _ _ _ _ w)⟩
theorem PGs.imp {e : List Expr} {t t' : TGs} (h : PGs X e t) (i : ∀ x σ H Q, t' x σ H Q → t x σ H Q) : PGs X e t' := ⟨fun pins s σ H v u Q I r w => h.run pins s σ H v u Q I r (i _ _ _ _ w)⟩
theorem s_tone {i : Nat} {x : Str} {pos : Pos} (hN : X.N.Nodup) (hi : X.N[i]? = some x) (hx : Loc X.env.scope x) (hf : X.fn x = true ∨ X.env.scope.names.lookup x = some .local) : PG X (.Name x pos) (tTg T (.one i)) :=
  PG.imp (pg_name hN hi hx hf) fun v σ H Q ⟨Hen, G, ρ, P, d, ρ', S, r, e, q⟩ => by
    cases e
    exact q _ (S.setCold i r) (List.length_set ..) fun j hj => List.getElem?_set_ne (by simpa [Tg.slots, eq_comm] using hj)
theorem s_tnil : PGs X [] (tTgs T []) := PGs.imp pgs_nil fun v σ H Q ⟨Hen, G, ρ, P, ds, ρ', S, r, e, q⟩ => by
  cases ds with
  | nil => cases e; unfold RepL at r; exact ⟨r, q σ S rfl fun _ _ => rfl⟩
  | cons d ds => cases e
theorem s_tcons {i : Nat} {is : List Nat} {x : Str} {pos : Pos} {es : List Expr} (hN : X.N.Nodup) (hi : X.N[i]? = some x) (hx : Loc X.env.scope x) (hf : X.fn x = true ∨ X.env.scope.names.lookup x = some .local) (h : PGs X es (tTgs T is))
    (hs : (assignEach (.Name x pos :: es) X.env).map (·.2) = assign (.Name x pos) X.env :: (assignEach es X.env).map (·.2)) : PGs X (.Name x pos :: es) (tTgs T (i :: is)) :=
  PGs.imp (pgs_cons (pg_name hN hi hx hf) h hs) fun v σ H Q ⟨Hen, G, ρ, P, ds, ρ', S, r, e, q⟩ => by
    cases ds with
    | nil => cases e
    | cons d ds =>
      unfold RepL at r
      obtain ⟨w, vs, ev, r1, r2⟩ := r
      refine ⟨w, vs, ev, Hen, G, _, P, ds, ρ', S.setCold i r1, r2, e, fun σ' S' hl hj => q σ' S' (by rw [hl, List.length_set]) fun j hn => ?_⟩
      simp only [List.mem_cons, not_or] at hn
      rw [hj j hn.2, List.getElem?_set_ne fun z => hn.1 z.symm]
theorem s_tmany {is : List Nat} {es : List Expr} {k : Nat} {pos : Pos} (hc : X.calm = true) (h : PGs X es (tTgs T is)) (hl : es.length = is.length) (hn : (assignEach es X.env).length = es.length) (hst : (assignEach es X.env).findIdx? (·.1) = none) : PG X (.Tuple es k pos) (tTg T (.many is)) := by
  refine PG.imp (pg_tup hc h hn hst) fun v σ H Q ⟨Hen, G, ρ, P, d, ρ', S, r, e, q⟩ => ?_
  cases d with
  | tup ds =>
    have r0 := r
    unfold Rep at r
    obtain ⟨a, vs, ev, ht, rl⟩ := r
    have hlen : ∀ (is : List Nat) (ρ : Sl) (ds : List D), setAll ρ is ds = some ρ' → is.length = ds.length := fun is => by
      induction is with
      | nil => intro ρ ds e; cases ds with
        | nil => rfl
        | cons d ds => cases e
      | cons i is ih => intro ρ ds e; cases ds with
        | nil => cases e
        | cons d ds => rw [List.length_cons, List.length_cons, ih _ _ e]
    exact ⟨a, vs, ev, SqT.of (S.sub _ _ ht), by rw [rl.length, ← hlen is ρ ds e, hl], Hen, G, ρ, P, ds, ρ', S, rl, e, q⟩
  | _ => cases e
end
end B


/-! .. comprehensions. -/
namespace B
open PySem PySem.Spec L2
section
variable {T : Tb} {X : Cx} {K : PySem.W.Frag} {W WB : WX} {C : Calls} {Hen : Hp} {G G1 : Gh} {P P1 : Option Pu} {H H0 H1 : Hp} {σ : St} {ρ : Sl} {Q Q' : VK} {r : R} {tg : Expr}
/-- what a turn is to do: from heap H at turn i, with acc made so far -/
theorem lc_turns {f : D → Option Pu → Option (Option D × Option Pu)} {xs ds : List D} {P' : Option Pu} {A : Addr} {J : L2.It} {g : TG} {tt : TT} {te : TE} {vs : List Nat} {Qd : Hp → Prop}
    (S : StOk T Hen G1 P1 H1 σ ρ) (wk : Wk T G1 H1 J xs) (hA : H1 A = none) (hl : xs.length ≤ LIM) (ht : turns f xs P1 [] = some (ds, P'))
    (fin : ∀ G' H' vs, Ext G1 H1 G' H' → PuOk G' P' H' → G'.Hf A = none → H' A = some (.lst vs) → RepL T G' ds vs → Qd H')
    (turn : ∀ (Gi : Gh) (H : Hp) (Pi Pn : Option Pu) (d : D) (od : Option D) (x : V) (ws : List V) (Nx : Hp → Prop), Ext G1 H1 Gi H → PuOk Gi Pi H → Gi.Hf A = none → H A = some (.lst ws) → ws.length < sizeLine → Rep T Gi d x → f d Pi = some (od, Pn) →
      (match od with
        | none => ∀ G' H', Ext Gi H G' H' → PuOk G' Pn H' → Nx H'
        | some e => ∀ G' H' y, Ext Gi H G' H' → PuOk G' Pn H' → Rep T G' e y → G'.Hf A = none → H' A = some (.lst ws) → Nx (upd H' A (.lst (ws ++ [y])))) →
      g x (L2.wipe σ vs) H fun σ2 H2 => L2.wipe σ2 vs = L2.wipe σ vs ∧ tt σ2 H2 fun b H3 =>
        if b = true then te σ2 H3 fun y H4 => ∃ acc, H4 A = some (.lst acc) ∧ acc.length < sizeLine ∧ Nx (upd H4 A (.lst (acc ++ [y]))) else Nx H3) :
    ∃ Wi : Nat → Nat → Hp → Prop, (∃ m, Wi 0 m (upd H1 A (.lst []))) ∧ ∀ i m H, Wi i m H →
      (J.stop i H ∧ Qd H) ∨ (J.go i H ∧ ∃ Nx : Hp → Prop, (∀ H', Nx H' → ∃ m', m' < m ∧ Wi (i + 1) m' H') ∧ ∀ x H', J.yld i H x H' → g x (L2.wipe σ vs) H' fun σ2 H2 => L2.wipe σ2 vs = L2.wipe σ vs ∧ tt σ2 H2 fun b H3 =>
        if b = true then te σ2 H3 fun y H4 => ∃ acc, H4 A = some (.lst acc) ∧ acc.length < sizeLine ∧ Nx (upd H4 A (.lst (acc ++ [y]))) else Nx H3) := by
  refine ⟨fun i m H => m = xs.length - i ∧ i ≤ xs.length ∧ ∃ Gi Pi acc ws, Ext G1 H1 Gi H ∧ PuOk Gi Pi H ∧ Gi.Hf A = none ∧ H A = some (.lst ws) ∧ RepL T Gi acc ws ∧ acc.length ≤ i ∧ turns f (xs.drop i) Pi acc = some (ds, P'), ⟨xs.length, by simp, Nat.zero_le _, ?_⟩, ?_⟩
  · obtain ⟨x, pu, nf, np⟩ := ext_new (o := .lst []) S hA
    exact ⟨G1, P1, [], [], x, pu, nf, upd_same, by unfold RepL; rfl, Nat.le_refl _, by simpa using ht⟩
  rintro i m H ⟨rfl, hi, Gi, Pi, acc, ws, xt, pu, nA, hAl, rl, hac, ht⟩
  have np : G1.p ≠ some A := fun z => by
    obtain ⟨_, _, q, _⟩ := S.pu.at z
    rw [hA] at q
    cases q
  by_cases hlt : i < xs.length
  · refine .inr ⟨wk.go Gi H i xt hlt, _, fun H' (p : ∃ Gi Pi acc ws, Ext G1 H1 Gi H' ∧ PuOk Gi Pi H' ∧ Gi.Hf A = none ∧ H' A = some (.lst ws) ∧ RepL T Gi acc ws ∧ acc.length ≤ i + 1 ∧ turns f (xs.drop (i + 1)) Pi acc = some (ds, P')) => ⟨xs.length - (i + 1), by omega, rfl, hlt, p⟩, fun x H' y => ?_⟩
    have hd : xs[i]? = some xs[i] := by simp [hlt]
    obtain ⟨e, rx⟩ := wk.yld Gi H i x H' xs[i] xt y hd
    subst e
    rw [List.drop_eq_getElem_cons hlt] at ht
    unfold turns at ht
    have hws : ws.length < sizeLine := by
      rw [rl.length]
      have := lim_line (n := xs.length) hl
      omega
    cases q : f xs[i] Pi with
    | none => rw [q] at ht; cases ht
    | some p =>
      obtain ⟨od, Pn⟩ := p
      rw [q] at ht
      refine turn Gi H' Pi Pn xs[i] od x ws _ xt pu nA hAl hws rx q ?_
      cases od with
      | none =>
        intro G' H2 x2 pu2
        have hA2 : H2 A = some (.lst ws) := x2.keep A _ hAl (by rw [xt.p]; exact np)
        have nA2 : G'.Hf A = none := by
          cases z : G'.Hf A with
          | none => rfl
          | some o => rcases x2.new A o z with z | z; rw [nA] at z; cases z; rw [hAl] at z; cases z
        exact ⟨G', Pn, acc, ws, xt.trans pu x2, pu2, nA2, hA2, RepL.mono x2.hf x2.p acc rl, by omega, ht⟩
      | some e =>
        intro G' H2 v x2 pu2 re nA2 hA2
        refine ⟨G', Pn, acc ++ [e], ws ++ [v], ?_, ?_, nA2, upd_same, RepL.append (RepL.mono x2.hf x2.p acc rl) (RepL.one re), by simp; omega, ht⟩
        · have x3 := xt.trans pu x2
          refine ⟨x3.hf, x3.p, fun b o q => ?_, fun b o q => x3.new b o q, fun b o q n => ?_⟩
          · rw [upd_ne (ne_of_none q nA2)]; exact x2.sub b o q
          · rw [upd_ne (ne_of_none q hA)]; exact x3.keep b o q n
        · refine PuOk.mk (fun b hb => ?_) fun hb => pu2.no hb
          obtain ⟨q, e1, e2, e3⟩ := pu2.at hb
          refine ⟨q, e1, ?_, e3⟩
          rw [upd_ne fun z => np (by rw [← z, ← xt.p, ← x2.p]; exact hb)]
          exact e2
  · have e : i = xs.length := by omega
    subst e
    rw [List.drop_eq_nil_of_le (Nat.le_refl _)] at ht
    cases ht
    exact .inl ⟨wk.stop Gi H _ xt (Nat.le_refl _), fin Gi H ws xt pu nA hAl rl⟩
/-- an item of the new list -/
theorem lc_elem {Gi : Gh} {H : Hp} {Pi Pn : Option Pu} {A : Addr} {ws : List V} {el : E} {d : D} {m : Mode} {Nx : Hp → Prop} (S : StOk T Hen Gi Pi H σ ρ) (nA : Gi.Hf A = none) (hA : H A = some (.lst ws)) (hws : ws.length < sizeLine) (ev : evalE C el ρ Pi = some (.ok d m Pn)) (hm : m ≠ .bor) (np : Gi.p ≠ some A)
    (k : ∀ G' H' y, Ext Gi H G' H' → PuOk G' Pn H' → Rep T G' d y → G'.Hf A = none → H' A = some (.lst ws) → Nx (upd H' A (.lst (ws ++ [y])))) :
    tE T K WB C el σ H fun y H4 => ∃ acc, H4 A = some (.lst acc) ∧ acc.length < sizeLine ∧ Nx (upd H4 A (.lst (acc ++ [y]))) := by
  refine ⟨Hen, Gi, ρ, Pi, _, S, ev, fun v G1 H1 x pu rr => ?_⟩
  obtain ⟨G2, ep, s1, s2, s3, pu2, rep⟩ := rr.freeze x.sub hm pu fun _ _ => trivial
  have x2 : Ext Gi H G2 H1 := ⟨x.hf.trans s1, ep.trans x.p, s2, fun b o q => (s3 b o q).elim (x.new b o) .inr, x.keep⟩
  have hA2 : H1 A = some (.lst ws) := x.keep A _ hA np
  have nA2 : G2.Hf A = none := by
    cases z : G2.Hf A with
    | none => rfl
    | some o => rcases x2.new A o z with z | z; rw [nA] at z; cases z; rw [hA] at z; cases z
  exact ⟨ws, hA2, hws, k G2 H1 v x2 pu2 rep nA2 hA2⟩
theorem lc_fin {ds : List D} {A : Addr} (k : Kont T K W G1 H1 σ (.ok (.lst ds) .fresh P) Q) (pu1 : PuOk G1 P1 H1) (hA : H1 A = none) : ∀ G' H' vs, Ext G1 H1 G' H' → PuOk G' P H' → G'.Hf A = none → H' A = some (.lst vs) → RepL T G' ds vs → Q (.ref A) H' :=
  fun G' H' vs x pu n q r => k (.ref A) G' H' x pu ⟨A, rfl, n, (by
    intro z
    obtain ⟨_, _, q, _⟩ := pu1.at (x.p.symm.trans z)
    rw [hA] at q
    cases q), hA, vs, q, r⟩
theorem thenI {it : It} {f : List D → Option Pu → Option R} {Q' : L2.It → Hp → Prop} (S : StOk T Hen G P H σ ρ) (ev : bndL (evalIt C it ρ P) f = some r) (k : Kont T K W G H σ r Q)
    (next : ∀ ds P1 J G1 H1, StOk T Hen G1 P1 H1 σ ρ → Wk T G1 H1 J ds → Ext G H G1 H1 → f ds P1 = some r → Kont T K W G1 H1 σ r Q → Q' J H1) : tIt T W C it σ H Q' := by
  cases e : evalIt C it ρ P with
  | none => rw [e] at ev; cases ev
  | some ra =>
    rw [e] at ev
    refine ⟨Hen, G, ρ, P, ra, S, e, ?_⟩
    cases ra with
    | exc c o d P' => cases ev; exact k
    | ok d P' => exact fun vs G' H' x pu rr => next d P' vs G' H' (S.ext x pu) rr x ev (k.step x pu)
theorem evalIt_lim {it : It} {xs : List D} {P' : Option Pu} (h : evalIt C it ρ P = some (.ok xs P')) : xs.length ≤ LIM := by
  cases it with
  | val e =>
    unfold evalIt at h
    split at h
    · split at h
      · split at h
        · cases h; assumption
        · cases h
      · cases h
    · cases h
    · cases h
  | rng a =>
    unfold evalIt at h
    split at h
    · split at h
      · cases h; rw [upTo_len]; omega
      · cases h
    · cases h
    · cases h
  | rng2 a b =>
    unfold evalIt at h
    split at h
    · split at h
      · split at h
        · rename_i q; cases h; rw [upTo_len]; exact q.2.2
        · cases h
      · cases h
      · cases h
    · cases h
    · cases h
theorem hp_no {A : Addr} (S : StOk T Hen G P H σ ρ) (hA : H A = none) : G.p ≠ some A := fun z => by
  obtain ⟨_, _, q, _⟩ := S.pu.at z
  rw [hA] at q
  cases q
/-- the slots at a turn -/
theorem turn_tg {tgt : Tg} {own : List (Str × Nat)} {Gi : Gh} {Hi : Hp} {Pi : Option Pu} {d : D} {x : V} {ρ' : Sl} {Qt : St → Hp → Prop} (S : StOk T Hen G P H σ ρ) (xt : Ext G H Gi Hi) (pu : PuOk Gi Pi Hi) (how : own.map (·.2) = tgt.slots) (rx : Rep T Gi d x) (hp : tgt.put d (wipeS ρ tgt.slots) = some ρ')
    (q : ∀ σ', StOk T Hen Gi Pi Hi σ' ρ' → L2.wipe σ' (own.map (·.2)) = L2.wipe σ (own.map (·.2)) → Qt σ' Hi) : tTg T tgt x (L2.wipe σ (own.map (·.2))) Hi Qt := by
  rw [how]
  refine ⟨Hen, Gi, wipeS ρ tgt.slots, Pi, d, ρ', (S.ext xt pu).wipe _, rx, hp, fun σ' S' hl hj => q σ' S' ?_⟩
  rw [how]
  refine wipe_eq (by rw [hl, wipe_length]) fun j hn => ?_
  rw [hj j hn, wipe_get, if_neg hn]
theorem lc_imp {it : It} {el : E} {tgt : Tg} {own : List (Str × Nat)} (how : own.map (·.2) = tgt.slots) :
    ∀ σ H Q, tE T K W C (.lc tgt it el) σ H Q → tLc (tIt T W C it) (tTg T tgt) tYes (tE T K WB C el) (own.map (·.2)) σ H Q := by
  refine fun σ H Q ⟨Hen, G, ρ, P, r, S, ev, k⟩ => ?_
  unfold evalE at ev
  have hlim : ∀ {xs P'}, evalIt C it ρ P = some (.ok xs P') → xs.length ≤ LIM := evalIt_lim
  have ev0 := ev
  cases hev : evalIt C it ρ P with
  | none => rw [hev] at ev; cases ev
  | some rl =>
    rw [hev] at ev
    refine ⟨Hen, G, ρ, P, rl, S, hev, ?_⟩
    cases rl with
    | exc c o d P' => cases ev; exact k
    | ok xs P1 =>
      intro J G1 H1 x pu1 wk A hA
      have S1 := S.ext x pu1
      have k1 := k.step x pu1
      have ev : (match turns _ xs P1 [] with
        | some (ds, P') => some (R.ok (.lst ds) .fresh P')
        | none => none) = some r := ev
      split at ev
      · rename_i ds P' ht
        cases ev
        refine lc_turns S1 wk hA (hlim hev) ht (lc_fin k1 pu1 hA) fun Gi Hi Pi Pn d od y ws Nx xt pu nA hAl hws rx hf hk => ?_
        cases hput : tgt.put d (wipeS ρ tgt.slots) with
        | none => rw [hput] at hf; cases hf
        | some ρ' =>
          rw [hput] at hf
          refine turn_tg S1 xt pu how rx hput fun σ' S' hw => ⟨hw, ?_⟩
          have hf : (match evalE C el ρ' Pi with
            | some (.ok d .bor _) => none
            | some (.ok d _ P') => some (some d, P')
            | _ => none) = some (od, Pn) := hf
          simp only [tYes, if_true]
          split at hf
          · cases hf
          · rename_i e m P2 hm hev2
            cases hf
            exact lc_elem S' nA hAl hws hev2 hm (by rw [xt.p]; exact hp_no S1 hA) hk
          · cases hf
      · cases ev
def Es.len : Es → Nat
  | .nil => 0
  | .cons _ r => r.len + 1
theorem evalEs_len : ∀ {as : Es} {ρ : Sl} {P : Option Pu} {ds : List D} {P1 : Option Pu}, evalEs C as ρ P = some (.ok ds P1) → ds.length = as.len
  | .nil, ρ, P, ds, P1, h => by unfold evalEs at h; cases h; rfl
  | .cons e r, ρ, P, ds, P1, h => by
    unfold evalEs at h
    split at h
    · cases h
    · split at h
      · rename_i q
        cases h
        rw [List.length_cons, evalEs_len q]
        rfl
      · cases h
      · cases h
    · cases h
    · cases h
theorem s_lc {it : It} {el : E} {tgt : Tg} {elt iter : Expr} {scope : Scope} {own : List (Str × Nat)} {pos : Pos} (hc : X.calm = true) (hN : X.N.Nodup) (hi : PI X tg iter (tIt T W C it)) (ok : BlkOk X.N X.env.scope scope own) (how : own.map (·.2) = tgt.slots)
    (hg : ∀ (s : Shared) (H : Hp) (C : Addr) (cl : List (Str × Addr)) (fp : List Addr), PG (X.blk s H scope (compEnvC scope cl C X.env) fp) tg (tTg T tgt))
    (he : ∀ (s : Shared) (H : Hp) (A : Addr) (cl : List (Str × Addr)) (fp : List Addr), PE (X.blk s H scope (compEnvC scope cl A X.env) fp) elt (tE T X.K WB C el)) (hs : ∀ x, foldedSetIterable iter X.env x = pure x) :
    PE X (.ListComp elt [⟨tg, iter, [], 0⟩] scope pos) (tE T X.K W C (.lc tgt it el)) :=
    PE.imp (pe_lc hc hN hi ok hg (fun _ _ _ _ _ => pts_nil) he hs) (lc_imp how)
theorem lcif_imp {it : It} {c el : E} {tgt : Tg} {own : List (Str × Nat)} (how : own.map (·.2) = tgt.slots) :
    ∀ σ H Q, tE T K W C (.lcif tgt it c el) σ H Q → tLc (tIt T W C it) (tTg T tgt) (tT T K WB C c) (tE T K WB C el) (own.map (·.2)) σ H Q := by
  refine fun σ H Q ⟨Hen, G, ρ, P, r, S, ev, k⟩ => ?_
  unfold evalE at ev
  have hlim : ∀ {xs P'}, evalIt C it ρ P = some (.ok xs P') → xs.length ≤ LIM := evalIt_lim
  cases hev : evalIt C it ρ P with
  | none => rw [hev] at ev; cases ev
  | some rl =>
    rw [hev] at ev
    refine ⟨Hen, G, ρ, P, rl, S, hev, ?_⟩
    cases rl with
    | exc c o d P' => cases ev; exact k
    | ok xs P1 =>
      intro J G1 H1 x pu1 wk A hA
      have S1 := S.ext x pu1
      have k1 := k.step x pu1
      have ev : (match turns _ xs P1 [] with
        | some (ds, P') => some (R.ok (.lst ds) .fresh P')
        | none => none) = some r := ev
      split at ev
      · rename_i ds P' ht
        cases ev
        refine lc_turns S1 wk hA (hlim hev) ht (lc_fin k1 pu1 hA) fun Gi Hi Pi Pn d od y ws Nx xt pu nA hAl hws rx hf hk => ?_
        cases hput : tgt.put d (wipeS ρ tgt.slots) with
        | none => rw [hput] at hf; cases hf
        | some ρ' =>
          rw [hput] at hf
          refine turn_tg S1 xt pu how rx hput fun σ' S' hw => ⟨hw, ?_⟩
          have hf : (match evalE C c ρ' Pi with
            | some (.ok (.bl true) _ P') => match evalE C el ρ' P' with
              | some (.ok d .bor _) => none
              | some (.ok d _ P'') => some (some d, P'')
              | _ => none
            | some (.ok (.bl false) _ P') => some (none, P')
            | _ => none) = some (od, Pn) := hf
          have np : Gi.p ≠ some A := by rw [xt.p]; exact hp_no S1 hA
          split at hf
          · rename_i m0 P0 hev0
            refine ⟨Hen, Gi, ρ', Pi, _, S', hev0, fun v G2 H2 x2 pu2 rr => ⟨true, rr.bl, ?_⟩⟩
            simp only [if_true]
            have hA2 : H2 A = some (.lst ws) := x2.keep A _ hAl np
            have nA2 : G2.Hf A = none := by
              cases z : G2.Hf A with
              | none => rfl
              | some o => rcases x2.new A o z with z | z; rw [nA] at z; cases z; rw [hAl] at z; cases z
            split at hf
            · cases hf
            · rename_i e m P2 hm hev2
              cases hf
              exact lc_elem (S'.ext x2 pu2) nA2 hA2 hws hev2 hm (by rw [x2.p]; exact np) fun G3 H3 y3 x3 pu3 => hk G3 H3 y3 (x2.trans pu2 x3) pu3
            · cases hf
          · rename_i m0 P0 hev0
            cases hf
            refine ⟨Hen, Gi, ρ', Pi, _, S', hev0, fun v G2 H2 x2 pu2 rr => ⟨false, rr.bl, ?_⟩⟩
            simp only [Bool.false_eq_true, if_false]
            exact hk G2 H2 x2 pu2
          · cases hf
      · cases ev
theorem s_lcif {it : It} {c el : E} {tgt : Tg} {ce elt iter : Expr} {scope : Scope} {own : List (Str × Nat)} {pos : Pos} (hc : X.calm = true) (hN : X.N.Nodup) (hi : PI X tg iter (tIt T W C it)) (ok : BlkOk X.N X.env.scope scope own) (how : own.map (·.2) = tgt.slots)
    (hg : ∀ (s : Shared) (H : Hp) (C : Addr) (cl : List (Str × Addr)) (fp : List Addr), PG (X.blk s H scope (compEnvC scope cl C X.env) fp) tg (tTg T tgt))
    (ht : ∀ (s : Shared) (H : Hp) (A : Addr) (cl : List (Str × Addr)) (fp : List Addr), PT (X.blk s H scope (compEnvC scope cl A X.env) fp) ce (tT T X.K WB C c))
    (he : ∀ (s : Shared) (H : Hp) (A : Addr) (cl : List (Str × Addr)) (fp : List Addr), PE (X.blk s H scope (compEnvC scope cl A X.env) fp) elt (tE T X.K WB C el)) (hs : ∀ x, foldedSetIterable iter X.env x = pure x) :
    PE X (.ListComp elt [⟨tg, iter, [ce], 0⟩] scope pos) (tE T X.K W C (.lcif tgt it c el)) :=
    PE.imp (pe_lc hc hN hi ok hg (fun s H A cl fp => pts_one (ht s H A cl fp)) he hs) (lcif_imp how)
end
end B


/-! .. statements. -/
namespace B
open PySem PySem.Spec L2
/-- what is told of the frame's start: the heap, what was told, the parameters' values -/
structure En where
  H : Hp
  G : Gh
  par : List V
structure Fr (T : Tb) (en : En) (G : Gh) (P : Option Pu) (H : Hp) (σ : St) (ρ : Sl) : Prop where
  st : StOk T en.H G P H σ ρ
  ext : Ext en.G en.H G H
  par : ∀ (i : Nat) v, en.par[i]? = some v → σ[i]? = some (some v)
def KontO (T : Tb) (K : PySem.W.Frag) (W : WX) (en : En) (G : Gh) (o : O) (D : Ends) : Prop := match o with
  | .next ρ P => ∀ σ' G' H', Same G.Hf G'.Hf → Fr T en G' P H' σ' ρ → D.nx σ' H'
  | .ret d m P => ∀ v G' H', Ext en.G en.H G' H' → PuOk G' P H' → RRes T K en.H G' H' d v m → D.rt v H'
  | .exc c o d P => ∀ v dd σ' G' H', Ext en.G en.H G' H' → PuOk G' P H' → Rep T G' d v → H' dd = some (.xd [("value", v)]) → en.H dd = none → (∀ i, o = some i → ∀ w, en.par[i]? = some w → w = v) → W (.ref (T.ecl c)) (some dd) σ' H'
def tS (T : Tb) (K : PySem.W.Frag) (W : WX) (C : Calls) (np : Nat) (s : S) : TS := fun D σ H => ∃ en G ρ P o, Fr T en G P H σ ρ ∧ en.par.length ≤ np ∧ exec C s ρ P = some o ∧ KontO T K W en G o D
def tSs (T : Tb) (K : PySem.W.Frag) (W : WX) (C : Calls) (np : Nat) (s : Ss) : TS := fun D σ H => ∃ en G ρ P o, Fr T en G P H σ ρ ∧ en.par.length ≤ np ∧ execs C s ρ P = some o ∧ KontO T K W en G o D
theorem PS.imp {X : Cx} {e : Stmt} {t t' : TS} (h : PS X e t) (i : ∀ D σ H, t' D σ H → t D σ H) : PS X e t' := ⟨fun pins s σ H D I w => h.run pins s σ H D I (i _ _ _ w)⟩
theorem PSs.imp {X : Cx} {e : List Stmt} {t t' : TS} (h : PSs X e t) (i : ∀ D σ H, t' D σ H → t D σ H) : PSs X e t' := ⟨fun pins s σ H D I w => h.run pins s σ H D I (i _ _ _ w)⟩
section
variable {T : Tb} {X : Cx} {K : PySem.W.Frag} {W WB : WX} {C : Calls} {np : Nat} {en : En} {Hen : Hp} {G G1 : Gh} {P P1 : Option Pu} {H H0 H1 : Hp} {σ : St} {ρ : Sl} {Q Q' : VK} {r : R} {tg : Expr} {Z : Ends} {o : O} {pos : Pos}
theorem Fr.step (F : Fr T en G P H σ ρ) (x : Ext G H G1 H1) (pu : PuOk G1 P1 H1) : Fr T en G1 P1 H1 σ ρ := ⟨F.st.ext x pu, F.ext.trans F.st.pu x, F.par⟩
theorem Fr.set (F : Fr T en G P H σ ρ) {σ' : St} {ρ' : Sl} (S : StOk T en.H G P H σ' ρ') {is : List Nat} (hp : ∀ j ∈ is, en.par.length ≤ j) (h : ∀ j, j ∉ is → σ'[j]? = σ[j]?) : Fr T en G P H σ' ρ' := ⟨S, F.ext, fun i v e => by
  have hi : i < en.par.length := by
    by_cases z : i < en.par.length
    · exact z
    · rw [List.getElem?_eq_none (by omega)] at e; cases e
  rw [h i fun z => absurd (hp i z) (by omega)]
  exact F.par i v e⟩
theorem KontO.mono (k : KontO T K W en G o Z) (s : Same G.Hf G1.Hf) : KontO T K W en G1 o Z := by
  cases o with
  | next ρ P => exact fun σ' G' H' s' F => k σ' G' H' (s.trans s') F
  | ret d m P => exact k
  | exc c i d P => exact k
/-- an expression within a statement -/
theorem thenO {ea : E} {f : D → Mode → Option Pu → Option O} (F : Fr T en G P H σ ρ) (ev : obnd (evalE C ea ρ P) f = some o) (k : KontO T K W en G o Z)
    (next : ∀ d m P1 v G1 H1, Fr T en G1 P1 H1 σ ρ → RRes T K H G1 H1 d v m → Ext G H G1 H1 → f d m P1 = some o → Q' v H1) : tE T K W C ea σ H Q' := by
  cases e : evalE C ea ρ P with
  | none => rw [e] at ev; cases ev
  | some ra =>
    rw [e] at ev
    refine ⟨en.H, G, ρ, P, ra, F.st, e, ?_⟩
    cases ra with
    | exc c o' d P' =>
      cases ev
      exact fun v dd G' H' x pu rr hd n ho => k v dd σ G' H' (F.ext.trans F.st.pu x) pu rr hd (F.st.ent _ n) fun i hi w hw => by
        have e1 := ho i hi
        rw [F.par i w hw] at e1
        exact Option.some.inj (Option.some.inj e1)
    | ok d m P' => exact fun v G' H' x pu rr => next d m P' v G' H' (F.step x pu) rr x ev
theorem StOk.setOwn (S : StOk T Hen G P H σ ρ) (i : Nat) {d : D} {a : Addr} (n : G.Hf a = none) (np : G.p ≠ some a) (ne : Hen a = none) (t : Top T G H d a) (hd : ∀ (j : Nat) e, ρ[j]? = some (.own e) → σ[j]? ≠ some (some (.ref a))) : StOk T Hen G P H (σ.set i (some (.ref a))) (ρ.set i (.own d)) where
  sub := S.sub
  pu := S.pu
  len := by rw [List.length_set, List.length_set]; exact S.len
  cold := fun j e h => by
    by_cases hj : i = j
    · subst hj
      rw [List.getElem?_set_self'] at h
      cases q : ρ[i]? <;> rw [q] at h <;> cases h
    · rw [List.getElem?_set_ne hj] at h ⊢; exact S.cold j e h
  own := fun j e h => by
    by_cases hj : i = j
    · subst hj
      have hl : i < ρ.length := by
        by_cases hl : i < ρ.length
        · exact hl
        · rw [List.getElem?_eq_none (by rw [List.length_set]; omega)] at h; cases h
      rw [List.getElem?_set_self hl] at h
      cases h
      exact ⟨a, List.getElem?_set_self (by rw [← S.len]; exact hl), n, np, ne, t⟩
    · rw [List.getElem?_set_ne hj] at h ⊢; exact S.own j e h
  dist := fun j k d' e b h1 h2 h3 h4 => by
    by_cases hj : i = j
    · by_cases hk : i = k
      · omega
      · subst hj
        have hl : i < ρ.length := by
          by_cases hl : i < ρ.length
          · exact hl
          · rw [List.getElem?_eq_none (by rw [List.length_set]; omega)] at h1; cases h1
        rw [List.getElem?_set_self (by rw [← S.len]; exact hl)] at h3
        cases h3
        rw [List.getElem?_set_ne hk] at h2 h4
        exact absurd h4 (hd k e h2)
    · by_cases hk : i = k
      · subst hk
        have hl : i < ρ.length := by
          by_cases hl : i < ρ.length
          · exact hl
          · rw [List.getElem?_eq_none (by rw [List.length_set]; omega)] at h2; cases h2
        rw [List.getElem?_set_self (by rw [← S.len]; exact hl)] at h4
        cases h4
        rw [List.getElem?_set_ne hj] at h1 h3
        exact absurd h3 (hd j d' h1)
      · rw [List.getElem?_set_ne hj] at h1 h3
        rw [List.getElem?_set_ne hk] at h2 h4
        exact S.dist j k d' e b h1 h2 h3 h4
  ent := S.ent
/-- a name takes a result -/
theorem Fr.take (F0 : Fr T en G P H σ ρ) (F : Fr T en G1 P1 H1 σ ρ) {d : D} {v : V} {m : Mode} {s : Slot} (rr : RRes T K H G1 H1 d v m) (hs : slotOf d m = some s) {i : Nat} (hi : en.par.length ≤ i) : Fr T en G1 P1 H1 (σ.set i (some v)) (ρ.set i s) := by
  refine F.set (is := [i]) ?_ (fun j hj => by rw [List.mem_singleton] at hj; exact hj ▸ hi) fun j hj => List.getElem?_set_ne fun z => hj (by simp [z])
  cases m with
  | cold => cases hs; exact F.st.setCold i rr
  | bor => cases hs
  | fresh =>
    cases hs
    obtain ⟨a, e, n, np, h0, t⟩ := rr
    subst e
    refine F.st.setOwn i n np (F0.st.ent a h0) t fun j e hj hv => ?_
    obtain ⟨b, e1, _, _, _, t1⟩ := F0.st.own j e hj
    rw [hv] at e1
    cases e1
    obtain ⟨u, hu⟩ := t1.there
    rw [h0] at hu
    cases hu
/-- name = e, of any form that is so judged -/
theorem s_set {st : Stmt} {te : TE} {e : E} {i : Nat} (h : PS X st (tAsg te (gName i))) (he : ∀ σ H Q, tE T X.K W C e σ H Q → te σ H Q) (hi : np ≤ i) : PS X st (tS T X.K W C np (.set i e)) := by
  refine PS.imp h fun D σ H ⟨en, G, ρ, P, o, F, hnp, ev, k⟩ => he σ H _ ?_
  unfold exec at ev
  refine thenO F ev k fun d m P1 v G1 H1 F1 rr x ev1 => ?_
  split at ev1
  · rename_i s hs
    cases ev1
    exact k _ G1 H1 x.hf (F.take F1 rr hs (Nat.le_trans hnp hi))
  · cases ev1
theorem s_unp {tg e : Expr} {is : List Nat} {a : E} (he : PE X e (tE T X.K W C a)) (hg : PG X tg (tTg T (.many is))) (hi : is.all (fun i => decide (np ≤ i)) = true)
    (hs : swapsWithSole [tg] e pos.line X.env = pure false) (hw : swappedStores [tg] e X.env = pure none) (h1 : (assignEach [tg] X.env).map (·.2) = [assign tg X.env]) :
    PS X (.Assign [tg] e pos) (tS T X.K W C np (.unp is a)) := by
  refine PS.imp (ps_asg he hg hs hw h1) fun D σ H ⟨en, G, ρ, P, o, F, hnp, ev, k⟩ => ?_
  unfold exec at ev
  refine thenO F ev k fun d m P1 v G1 H1 F1 rr x ev1 => ?_
  have go : ∀ ds, d = .tup ds → Rep T G1 (.tup ds) v → (match setAll ρ is ds with
        | some ρ' => some (O.next ρ' P1)
        | none => none) = some o → tTg T (.many is) v σ H1 D.nx := fun ds e rep ev1 => by
    split at ev1
    · rename_i ρ' hρ
      cases ev1
      refine ⟨en.H, G1, ρ, P1, .tup ds, ρ', F1.st, rep, hρ, fun σ' S' hl hj => k _ G1 H1 x.hf (F1.set S' (is := is) (fun j hj => ?_) hj)⟩
      exact Nat.le_trans hnp (of_decide_eq_true (List.all_eq_true.mp hi j hj))
    · cases ev1
  cases m with
  | bor => cases ev1
  | cold => cases d with
    | tup ds => exact go ds rfl rr ev1
    | _ => cases ev1
  | fresh => cases d with
    | tup ds => obtain ⟨a, _, _, _, _, t⟩ := rr; exact t.elim
    | _ => cases ev1
theorem set2_get {σ : St} {i j k : Nat} {v w : Option V} (h : k ∉ [i, j]) : ((σ.set i v).set j w)[k]? = σ[k]? := by
  simp only [List.mem_cons, List.not_mem_nil, or_false, not_or] at h
  rw [List.getElem?_set_ne fun z => h.2 z.symm, List.getElem?_set_ne fun z => h.1 z.symm]
theorem repL2 {ds : List D} {v w : V} (h : RepL T G ds [v, w]) : ∃ d e, ds = [d, e] ∧ Rep T G d v ∧ Rep T G e w := by
  cases ds with
  | nil => unfold RepL at h; cases h
  | cons d ds =>
    unfold RepL at h
    obtain ⟨_, _, e, h1, h2⟩ := h
    cases e
    cases ds with
    | nil => unfold RepL at h2; cases h2
    | cons e ds =>
      unfold RepL at h2
      obtain ⟨_, _, e, h3, h4⟩ := h2
      cases e
      cases ds with
      | nil => exact ⟨_, _, rfl, h1, h3⟩
      | cons e ds => unfold RepL at h4; obtain ⟨_, _, z, _⟩ := h4; cases z
/-- a, b = x, y -/
theorem s_par {i j : Nat} {x y : Str} {a b : Expr} {as : Es} {px py pt : Pos} {kt k2 pt2} (hc : X.calm = true) (hN : X.N.Nodup) (hi : X.N[i]? = some x) (hj : X.N[j]? = some y) (hij : i ≠ j)
    (hx : X.env.scope.names.lookup x = some .local) (hy : X.env.scope.names.lookup y = some .local) (ha : PA X [a, b] (tEs T W C as))
    (hw : swappedStores [.Tuple [.Name x px, .Name y py] kt pt] (.Tuple [a, b] k2 pt2) X.env = pure (some [x, y]))
    (hs : swapsWithSole [.Tuple [.Name x px, .Name y py] kt pt] (.Tuple [a, b] k2 pt2) pos.line X.env = pure false) (hl : as.len = 2) (h1 : np ≤ i) (h2 : np ≤ j) :
    PS X (.Assign [.Tuple [.Name x px, .Name y py] kt pt] (.Tuple [a, b] k2 pt2) pos) (tS T X.K W C np (.unp [i, j] (.tup as))) := by
  refine PS.imp (ps_par hc hN hi hj hij hx hy ha hw hs) fun D σ H ⟨en, G, ρ, P, o, F, hnp, ev, k⟩ => ?_
  unfold exec evalE at ev
  show tEs T W C as σ H _
  cases e : evalEs C as ρ P with
  | none => rw [e] at ev; cases ev
  | some ra =>
    rw [e] at ev
    refine ⟨en.H, G, ρ, P, ra, F.st, e, ?_⟩
    cases ra with
    | exc c o' d P' =>
      cases ev
      exact fun v dd G' H' x pu rr hd n ho => k v dd σ G' H' (F.ext.trans F.st.pu x) pu rr hd (F.st.ent _ n) fun i hi w hw => by
        have e1 := ho i hi
        rw [F.par i w hw] at e1
        exact Option.some.inj (Option.some.inj e1)
    | ok ds P1 =>
      intro vs G1 H1 x1 pu rl _
      have hds := evalEs_len e
      rw [hl] at hds
      have hvs := rl.length
      match vs, hvs.trans hds with
      | [v, w], _ =>
        obtain ⟨d, e', rfl, r1, r2⟩ := repL2 rl
        cases ev
        refine ⟨v, w, rfl, k _ G1 H1 x1.hf ((F.step x1 pu).set (((F.step x1 pu).st.setCold i r1).setCold j r2) (is := [i, j]) (fun z hz => ?_) fun z hz => set2_get hz)⟩
        simp only [List.mem_cons, List.not_mem_nil, or_false] at hz
        rcases hz with z | z <;> omega
theorem s_exp {e : Expr} {a : E} (he : PE X e (tE T X.K W C a)) (hs : swapsWith e none pos.line X.env = pure false) : PS X (.Expr e pos) (tS T X.K W C np (.exp a)) := by
  refine PS.imp (ps_expr he hs) fun D σ H ⟨en, G, ρ, P, o, F, hnp, ev, k⟩ => ?_
  unfold exec at ev
  refine thenO F ev k fun d m P1 v G1 H1 F1 rr x ev1 => ?_
  cases ev1
  exact k _ G1 H1 x.hf F1
theorem s_pass : PS X (.Pass pos) (tS T X.K W C np .pass) := PS.imp ps_pass fun D σ H ⟨en, G, ρ, P, o, F, hnp, ev, k⟩ => by
  unfold exec at ev
  cases ev
  exact k _ G H (Same.refl _) F
theorem s_doc {x j pos'} : PS X (.Expr (.Constant (.str x) j pos) pos') (tS T X.K W C np .pass) := PS.imp ps_doc fun D σ H ⟨en, G, ρ, P, o, F, hnp, ev, k⟩ => by
  unfold exec at ev
  cases ev
  exact k _ G H (Same.refl _) F
theorem s_retN : PS X (.Return none pos) (tS T X.K W C np .retN) := PS.imp ps_retN fun D σ H ⟨en, G, ρ, P, o, F, hnp, ev, k⟩ => by
  unfold exec at ev
  cases ev
  exact k _ G H F.ext F.st.pu (by unfold RRes Rep; rfl)
def E.isVar : E → Bool
  | .var _ => true
  | _ => false
theorem s_retV {i : Nat} {x : Str} {p : Pos} (hN : X.N[i]? = some x) (hv : Vis X.env.scope x) (hd : (x == ("__debug__" : Str)) = false) (hcd : (x == ("__classdict__" : Str)) = false) : PS X (.Return (some (.Name x p)) pos) (tS T X.K W C np (.ret (.var i))) := by
  refine PS.imp (ps_ret (pe_var hN hv hd hcd)) fun D σ H ⟨en, G, ρ, P, o, F, hnp, ev, k⟩ => ?_
  unfold exec evalE rget at ev
  cases e : ρ[i]? with
  | none => rw [e] at ev; cases ev
  | some s =>
    rw [e] at ev
    cases s with
    | no => cases ev
    | cold d =>
      cases ev
      obtain ⟨v, e1, rr⟩ := F.st.cold i d e
      exact ⟨v, e1, k v G H F.ext F.st.pu rr⟩
    | own d =>
      cases ev
      obtain ⟨a, e1, n, np, ne, t⟩ := F.st.own i d e
      exact ⟨.ref a, e1, k (.ref a) G H F.ext F.st.pu ⟨a, rfl, n, np, ne, t⟩⟩
theorem s_ret {e : Expr} {a : E} (he : PE X e (tE T X.K W C a)) (hva : a.isVar = false) : PS X (.Return (some e) pos) (tS T X.K W C np (.ret a)) := by
  refine PS.imp (ps_ret he) fun D σ H ⟨en, G, ρ, P, o, F, hnp, ev, k⟩ => ?_
  unfold exec at ev
  refine thenO F ev k fun d m P1 v G1 H1 F1 rr x ev1 => ?_
  cases m with
  | cold => cases ev1; exact k v G1 H1 F1.ext F1.st.pu rr
  | fresh => cases ev1; exact k v G1 H1 F1.ext F1.st.pu (rr.later F.st.ent)
  | bor =>
    cases a with
    | var i => cases hva
    | _ => cases ev1
theorem s_nilS : PSs X [] (tSs T X.K W C np .nil) := PSs.imp pss_nil fun D σ H ⟨en, G, ρ, P, o, F, hnp, ev, k⟩ => by
  unfold execs at ev
  cases ev
  exact k _ G H (Same.refl _) F
theorem s_consS {st : Stmt} {rest : List Stmt} {s : S} {ss : Ss} (h1 : PS X st (tS T X.K W C np s)) (h2 : PSs X rest (tSs T X.K W C np ss)) : PSs X (st :: rest) (tSs T X.K W C np (.cons s ss)) := by
  refine PSs.imp (pss_cons h1 h2) fun D σ H ⟨en, G, ρ, P, o, F, hnp, ev, k⟩ => ?_
  unfold execs at ev
  cases e : exec C s ρ P with
  | none => rw [e] at ev; cases ev
  | some o1 =>
    rw [e] at ev
    refine ⟨en, G, ρ, P, o1, F, hnp, e, ?_⟩
    cases o1 with
    | next ρ1 P1 => exact fun σ' G' H' s F' => ⟨en, G', ρ1, P1, o, F', hnp, ev, k.mono s⟩
    | ret d m P1 => cases ev; exact k
    | exc c o' d P1 => cases ev; exact k
theorem s_if {c : Expr} {a b : List Stmt} {ce : E} {as bs : Ss} (hc : PT X c (tT T X.K W C ce)) (ha : PSs X a (tSs T X.K W C np as)) (hb : PSs X b (tSs T X.K W C np bs)) : PS X (.If c a b pos) (tS T X.K W C np (.ife ce as bs)) := by
  refine PS.imp (ps_if hc ha hb) fun D σ H ⟨en, G, ρ, P, o, F, hnp, ev, k⟩ => ?_
  unfold exec at ev
  refine thenO F ev k fun d m P1 v G1 H1 F1 rr x ev1 => ?_
  cases d with
  | bl b =>
    refine ⟨b, rr.bl, ?_⟩
    cases b with
    | true => exact ⟨en, G1, ρ, P1, o, F1, hnp, ev1, k.mono x.hf⟩
    | false => exact ⟨en, G1, ρ, P1, o, F1, hnp, ev1, k.mono x.hf⟩
  | _ => cases ev1
end
end B


/-! .. stores, for. -/
namespace B
open PySem PySem.Spec L2
section
variable {T : Tb} {X : Cx} {K : PySem.W.Frag} {W WB : WX} {C : Calls} {np : Nat} {en : En} {Hen : Hp} {G G1 : Gh} {P P1 : Option Pu} {H H0 H1 : Hp} {σ : St} {ρ : Sl} {Q Q' : VK} {r : R} {tg : Expr} {Z : Ends} {o : O} {pos : Pos}
/-- an own list or dict changed -/
theorem StOk.updOwn (S : StOk T Hen G P H σ ρ) {i : Nat} {a : Addr} {d d' : D} {u : HO} (hi : ρ[i]? = some (.own d)) (hv : σ[i]? = some (some (.ref a))) (t : Top T G (upd H a u) d' a) : StOk T Hen G P (upd H a u) σ (ρ.set i (.own d')) := by
  obtain ⟨a', e1, n, npu, ne, t0⟩ := S.own i d hi
  rw [hv] at e1
  cases e1
  have hl : i < ρ.length := by
    by_cases hl : i < ρ.length
    · exact hl
    · rw [List.getElem?_eq_none (by omega)] at hi; cases hi
  refine ⟨fun b o q => ?_, ?_, by rw [List.length_set]; exact S.len, fun j e h => ?_, fun j e h => ?_, fun j k e f b h1 h2 h3 h4 => ?_, fun b q => ?_⟩
  · rw [upd_ne (ne_of_none q n)]; exact S.sub b o q
  · refine PuOk.mk (fun b hb => ?_) fun hb => S.pu.no hb
    obtain ⟨q, e1, e2, e3⟩ := S.pu.at hb
    exact ⟨q, e1, by rw [upd_ne fun z => npu (by rw [← z]; exact hb)]; exact e2, e3⟩
  · by_cases hj : i = j
    · subst hj; rw [List.getElem?_set_self hl] at h; cases h
    · rw [List.getElem?_set_ne hj] at h; exact S.cold j e h
  · by_cases hj : i = j
    · subst hj
      rw [List.getElem?_set_self hl] at h
      cases h
      exact ⟨a, hv, n, npu, ne, t⟩
    · rw [List.getElem?_set_ne hj] at h
      obtain ⟨b, e2, n2, np2, ne2, t2⟩ := S.own j e h
      have nb : b ≠ a := fun z => hj (S.dist i j d e a hi h hv (by rw [e2, z]))
      exact ⟨b, e2, n2, np2, ne2, t2.mono (Same.refl _) rfl fun o q => by rw [upd_ne nb]; exact q⟩
  · have old : ∀ (j : Nat) e, (ρ.set i (.own d'))[j]? = some (.own e) → ∃ e', ρ[j]? = some (.own e') := fun j e h => by
      by_cases hj : i = j
      · subst hj; exact ⟨d, hi⟩
      · rw [List.getElem?_set_ne hj] at h; exact ⟨e, h⟩
    obtain ⟨e', h1⟩ := old j e h1
    obtain ⟨f', h2⟩ := old k f h2
    exact S.dist j k e' f' b h1 h2 h3 h4
  · by_cases hb : b = a
    · rw [hb]; exact ne
    · rw [upd_ne hb] at q; exact S.ent b q
theorem Fr.updOwn (F : Fr T en G P H σ ρ) {i : Nat} {a : Addr} {d d' : D} {u : HO} (hi : ρ[i]? = some (.own d)) (hv : σ[i]? = some (some (.ref a))) (t : Top T G (upd H a u) d' a) : Fr T en G P (upd H a u) σ (ρ.set i (.own d')) := by
  obtain ⟨a', e1, n, npu, ne, t0⟩ := F.st.own i d hi
  rw [hv] at e1
  cases e1
  refine ⟨F.st.updOwn hi hv t, ⟨F.ext.hf, F.ext.p, fun b o q => ?_, F.ext.new, fun b o q h => ?_⟩, F.par⟩
  · rw [upd_ne (ne_of_none q n)]; exact F.ext.sub b o q
  · rw [upd_ne (ne_of_none q ne)]; exact F.ext.keep b o q h
/-- told at once, in a statement -/
theorem Fr.frz (F0 : Fr T en G P H σ ρ) (F : Fr T en G1 P1 H1 σ ρ) (x : Ext G H G1 H1) {d : D} {v : V} {m : Mode} (rr : RRes T K H G1 H1 d v m) (hm : m ≠ .bor) : ∃ G2, Fr T en G2 P1 H1 σ ρ ∧ Ext G H G2 H1 ∧ Rep T G2 d v := by
  obtain ⟨G2, ep, s1, s2, s3, pu2, rep⟩ := rr.freeze F.st.sub hm F.st.pu fun _ _ => trivial
  have x2 : Ext G H G2 H1 := ⟨x.hf.trans s1, ep.trans x.p, s2, fun b o q => (s3 b o q).elim (x.new b o) .inr, x.keep⟩
  exact ⟨G2, F0.step x2 pu2, x2, rep⟩
/-- xs.append(e) -/
theorem s_app {i : Nat} {x : Str} {e : Expr} {a : E} {px apos cpos : Pos} (hN : X.N[i]? = some x) (hv : Vis X.env.scope x) (hd : (x == ("__debug__" : Str)) = false) (hcd : (x == ("__classdict__" : Str)) = false) (he : PE X e (tE T X.K W C a))
    (hs : swapsWith (.Call (.Attribute (.Name x px) "append" apos) [e] [] cpos) none pos.line X.env = pure false) (hst : starEach [e] X.env = [(false, eval e X.env)]) (hbase : attributeBase (.Name x px) "append" X.env (eval (.Name x px) X.env) = eval (.Name x px) X.env)
    (hline : (apos.endLine == cpos.line) = true) : PS X (.Expr (.Call (.Attribute (.Name x px) "append" apos) [e] [] cpos) pos) (tS T X.K W C np (.app i a)) := by
  refine PS.imp (ps_expr (pe_bm PySem.F.plainAttrs_list PySem.F.slot_list_append PySem.F.type_list_append mt_append (pe_var hN hv hd hcd) (pa_cons he pa_nil hst) hbase (by rw [hst]; rfl) hline hst (by rfl)) hs) fun D σ H ⟨en, G, ρ, P, o, F, hnp, ev, k⟩ => ?_
  unfold exec at ev
  split at ev
  · rename_i xs hi
    split at ev
    · rename_i hl
      obtain ⟨A, e1, n, npu, ne, vs, hA, rl⟩ := F.st.own i _ hi
      refine ⟨.ref A, e1, .inl ⟨rfl, vs, SqL.of hA⟩, thenO F ev k fun d m P1 v G1 H1 F1 rr x ev1 => ?_⟩
      have hm : m ≠ .bor := fun z => by subst z; cases ev1
      have ev1 : some (O.next (ρ.set i (.own (.lst (xs ++ [d])))) P1) = some o := by
        cases m with
        | bor => exact absurd rfl hm
        | cold => exact ev1
        | fresh => exact ev1
      cases ev1
      obtain ⟨G2, F2, x2, rep⟩ := F.frz F1 x rr hm
      have hA2 : H1 A = some (.lst vs) := x2.keep A _ hA npu
      refine ⟨A, vs, v, rfl, rfl, hA2, ?_, k _ G2 _ x2.hf (F2.updOwn hi e1 ⟨vs ++ [v], upd_same, RepL.append (RepL.mono x2.hf x2.p xs rl) (RepL.one rep)⟩)⟩
      rw [rl.length]
      have := lim_line (n := xs.length) (by omega)
      have := sizeLine_eq
      unfold LIM at hl
      omega
    · cases ev
  · cases ev
/-- the purse's number k -/
theorem puVs_put (p : Pu) {k : Nat} (hk : k < 4) (z : Int) : puVs (p.put k z) = (puVs p).set k (.int z) := by
  match k, hk with
  | 0, _ => rfl
  | 1, _ => rfl
  | 2, _ => rfl
  | 3, _ => rfl
theorem Fr.updPu (F : Fr T en G (some p) H σ ρ) {a : Addr} (ha : G.p = some a) (q : Pu) : Fr T en G (some q) (upd H a (.lst (puVs q))) σ ρ := by
  obtain ⟨p', _, h2, h3⟩ := F.st.pu.at ha
  refine ⟨⟨fun b o e => ?_, ?_, F.st.len, F.st.cold, fun i d e => ?_, F.st.dist, fun b e => ?_⟩, ⟨F.ext.hf, F.ext.p, fun b o e => ?_, F.ext.new, fun b o e n => ?_⟩, F.par⟩
  · rw [upd_ne (ne_of_none e h3)]; exact F.st.sub b o e
  · refine PuOk.mk (fun b hb => ?_) fun hb => by rw [ha] at hb; cases hb
    rw [ha] at hb
    cases hb
    exact ⟨q, rfl, upd_same, h3⟩
  · obtain ⟨b, e1, n, np, ne, t⟩ := F.st.own i d e
    have nb : b ≠ a := fun z => np (by rw [z]; exact ha)
    exact ⟨b, e1, n, np, ne, t.mono (Same.refl _) rfl fun o q => by rw [upd_ne nb]; exact q⟩
  · by_cases hb : b = a
    · rw [hb, upd_same] at e; cases e
    · rw [upd_ne hb] at e; exact F.st.ent b e
  · rw [upd_ne (ne_of_none e h3)]; exact F.ext.sub b o e
  · have nb : b ≠ a := fun z => n (by rw [z, ← F.ext.p]; exact ha)
    rw [upd_ne nb]; exact F.ext.keep b o e n
theorem s_ppu {i : Nat} {x : Str} {k : Nat} {e : Expr} {a : E} {px tpos kp : Pos} {j} (hN : X.N[i]? = some x) (hv : Vis X.env.scope x) (hd : (x == ("__debug__" : Str)) = false) (hcd : (x == ("__classdict__" : Str)) = false) (he : PE X e (tE T X.K W C a))
    (hs : swapsWithSole [.Subscript (.Name x px) (.Constant (.int k) j kp) tpos] e pos.line X.env = pure false) (hw : swappedStores [.Subscript (.Name x px) (.Constant (.int k) j kp) tpos] e X.env = pure none)
    (h1 : (assignEach [.Subscript (.Name x px) (.Constant (.int k) j kp) tpos] X.env).map (·.2) = [assign (.Subscript (.Name x px) (.Constant (.int k) j kp) tpos) X.env]) :
    PS X (.Assign [.Subscript (.Name x px) (.Constant (.int k) j kp) tpos] e pos) (tS T X.K W C np (.ppu i k a)) := by
  refine PS.imp (ps_asg he (pg_sub (pe_var hN hv hd hcd) pe_int set_list) hs hw h1) fun D σ H ⟨en, G, ρ, P, o, F, hnp, ev, kk⟩ => ?_
  unfold exec at ev
  refine thenO F ev kk fun d m P1 v G1 H1 F1 rr x1 ev1 => ?_
  split at ev1
  · rename_i hi
    cases d with
    | int z =>
      cases P1 with
      | none => cases ev1
      | some p =>
        dsimp only at ev1
        split at ev1
        · rename_i hk
          cases ev1
          obtain ⟨w, e1, r1⟩ := F1.st.cold i _ hi
          unfold Rep at r1
          obtain ⟨A, hA, ew⟩ := r1
          obtain ⟨q, eq, h2, h3⟩ := F1.st.pu.at hA
          cases eq
          refine ⟨w, e1, ⟨A, puVs p, k, k, ew, rfl, h2, ?_, ?_⟩⟩
          · show ixN 4 (k : Int) = some k
            unfold ixN
            rw [if_pos (by omega), if_pos (by omega)]
            rfl
          · rw [rr.int, ← puVs_put p hk z]
            exact kk _ G1 _ x1.hf (F1.updPu hA _)
        · cases ev1
    | _ => cases ev1
  · cases ev1
/-! a dict's store -/
def DPu (H : Hp) (a : Addr) (w v : V) (H' : Hp) : Prop := DPut H a w v H' ∨ (∃ l b, w = .ref b ∧ H b = some (.tup ((l : List Key).map kV)) ∧ H a = some (.dK []) ∧ H' = upd H a (.dT [(l, v)])) ∨ ∃ k : Key, w = kV k ∧ H a = some (.dT []) ∧ H' = upd H a (.dK [(k, v)])
def rSetD2 : TSet := fun o i v H Q => ∃ a H', o = .ref a ∧ DPu H a i v H' ∧ Q H'
theorem set_dict2 (hu : X.A.units + 1 < cLine) : PSet X rSetD2 := by
  intro pins s σ H o i v ov iv u Q I ro ri rv h
  obtain ⟨a, H', eo, g, q⟩ := h
  subst eo
  cases (show ov = Value.ref a from ro)
  rcases g with g | ⟨l, b, e, hb, ha, eH⟩ | ⟨k, e, ha, eH⟩
  · exact d_setItem hu I g ri rv fun s' I' => ⟨H', I', q⟩
  · subst e
    have nb : b ≠ a := fun z => by rw [z, ha] at hb; cases hb
    refine d_setItem hu (Inv.dKT I ha) (H' := H') ?_ ri rv fun s' I' => ⟨H', I', q⟩
    have g := DPut.t (H := upd H a (.dT [])) (a := a) (b := b) (kvs := []) (k := l) (v := v) upd_same (by rw [upd_ne nb]; exact hb) (by rw [sizeLine_eq]; decide)
    rw [upd_upd] at g
    rw [eH]
    exact g
  · subst e
    refine d_setItem hu (Inv.dTK I ha) (H' := H') ?_ ri rv fun s' I' => ⟨H', I', q⟩
    have g := DPut.k (H := upd H a (.dK [])) (a := a) (kvs := []) (k := k) (v := v) upd_same (by rw [sizeLine_eq]; decide)
    rw [upd_upd] at g
    rw [eH]
    exact g
theorem kd_of_k1 {d : D} {k : Key} (h : d.k1 = some k) : d.kd = some (.inl k) := by
  cases d with
  | int i => cases h; rfl
  | str x => cases h; rfl
  | _ => cases h
theorem RepK.any {kvs : List (D × D)} {ks : List (Key × V)} (r : RepK T G kvs ks) (k : Key) : (kvs.any fun p => decide (p.1.kd = some (.inl k))) = (ks.any fun kv => decide (kv.1 = k)) := by
  induction kvs generalizing ks with
  | nil => unfold RepK at r; subst r; rfl
  | cons p kvs ih =>
    obtain ⟨kd, d⟩ := p
    unfold RepK at r
    obtain ⟨q, v, t, e, ek, _, r2⟩ := r
    subst e
    rw [List.any_cons, List.any_cons, ih r2, kd_of_k1 ek]
    simp only [Option.some.injEq, Sum.inl.injEq]
theorem RepT.any {kvs : List (D × D)} {ks : List (List Key × V)} (r : RepT T G kvs ks) (k : List Key) : (kvs.any fun p => decide (p.1.kd = some (.inr k))) = (ks.any fun kv => decide (kv.1 = k)) := by
  induction kvs generalizing ks with
  | nil => unfold RepT at r; subst r; rfl
  | cons p kvs ih =>
    obtain ⟨kd, d⟩ := p
    unfold RepT at r
    obtain ⟨q, v, t, e, ek, _, r2⟩ := r
    subst e
    rw [List.any_cons, List.any_cons, ih r2]
    show (decide (kd.kd = some (.inr k)) || _) = _
    rw [ek]
    simp only [Option.some.injEq, Sum.inr.injEq]
theorem RepK.map {kvs : List (D × D)} {ks : List (Key × V)} (r : RepK T G kvs ks) {k : Key} {d : D} {v : V} (h : Rep T G d v) : RepK T G (kvs.map fun p => if p.1.kd = some (.inl k) then (p.1, d) else p) (ks.map fun kv => if kv.1 = k then (kv.1, v) else kv) := by
  induction kvs generalizing ks with
  | nil => unfold RepK at r; subst r; unfold RepK; rfl
  | cons p kvs ih =>
    obtain ⟨kd, d'⟩ := p
    unfold RepK at r
    obtain ⟨q, w, t, e, ek, r1, r2⟩ := r
    subst e
    rw [List.map_cons, List.map_cons, kd_of_k1 ek]
    by_cases hq : q = k
    · subst hq
      simp only [if_true]
      unfold RepK
      exact ⟨q, v, _, rfl, ek, h, ih r2⟩
    · rw [if_neg (by simpa using hq), if_neg hq]
      unfold RepK
      exact ⟨q, w, _, rfl, ek, r1, ih r2⟩
theorem RepT.map {kvs : List (D × D)} {ks : List (List Key × V)} (r : RepT T G kvs ks) {k : List Key} {d : D} {v : V} (h : Rep T G d v) : RepT T G (kvs.map fun p => if p.1.kd = some (.inr k) then (p.1, d) else p) (ks.map fun kv => if kv.1 = k then (kv.1, v) else kv) := by
  induction kvs generalizing ks with
  | nil => unfold RepT at r; subst r; unfold RepT; rfl
  | cons p kvs ih =>
    obtain ⟨kd, d'⟩ := p
    unfold RepT at r
    obtain ⟨q, w, t, e, ek, r1, r2⟩ := r
    subst e
    rw [List.map_cons, List.map_cons]
    show RepT T G ((if kd.kd = some (.inr k) then (kd, d) else (kd, d')) :: _) _
    rw [ek]
    by_cases hq : q = k
    · subst hq
      simp only [if_true]
      unfold RepT
      exact ⟨q, v, _, rfl, ek, h, ih r2⟩
    · rw [if_neg (by simpa using hq), if_neg hq]
      unfold RepT
      exact ⟨q, w, _, rfl, ek, r1, ih r2⟩
theorem RepK.snoc {kvs : List (D × D)} {ks : List (Key × V)} (r : RepK T G kvs ks) {k : Key} {kd d : D} {v : V} (ek : kd.k1 = some k) (h : Rep T G d v) : RepK T G (kvs ++ [(kd, d)]) (ks ++ [(k, v)]) := by
  induction kvs generalizing ks with
  | nil => unfold RepK at r; subst r; show RepK T G [(kd, d)] [(k, v)]; unfold RepK; exact ⟨k, v, [], rfl, ek, h, by unfold RepK; rfl⟩
  | cons p kvs ih =>
    obtain ⟨kd', d'⟩ := p
    unfold RepK at r
    obtain ⟨q, w, t, e, ek', r1, r2⟩ := r
    subst e
    show RepK T G ((kd', d') :: (kvs ++ [(kd, d)])) ((q, w) :: (t ++ [(k, v)]))
    unfold RepK
    exact ⟨q, w, _, rfl, ek', r1, ih r2⟩
theorem RepT.snoc {kvs : List (D × D)} {ks : List (List Key × V)} (r : RepT T G kvs ks) {k : List Key} {kd d : D} {v : V} (ek : kd.kd = some (.inr k)) (h : Rep T G d v) : RepT T G (kvs ++ [(kd, d)]) (ks ++ [(k, v)]) := by
  induction kvs generalizing ks with
  | nil => unfold RepT at r; subst r; show RepT T G [(kd, d)] [(k, v)]; unfold RepT; exact ⟨k, v, [], rfl, ek, h, by unfold RepT; rfl⟩
  | cons p kvs ih =>
    obtain ⟨kd', d'⟩ := p
    unfold RepT at r
    obtain ⟨q, w, t, e, ek', r1, r2⟩ := r
    subst e
    show RepT T G ((kd', d') :: (kvs ++ [(kd, d)])) ((q, w) :: (t ++ [(k, v)]))
    unfold RepT
    exact ⟨q, w, _, rfl, ek', r1, ih r2⟩
theorem RepK.put {kvs : List (D × D)} {ks : List (Key × V)} (r : RepK T G kvs ks) {k : Key} {kd d : D} {v : V} (ek : kd.k1 = some k) (h : Rep T G d v) : RepK T G (putKv (.inl k) kd d kvs) (putK ks k v) := by
  unfold putKv putK
  rw [r.any k]
  by_cases hz : (ks.any fun kv => decide (kv.1 = k)) = true
  · rw [if_pos hz, if_pos hz]; exact r.map h
  · rw [if_neg hz, if_neg hz]; exact r.snoc ek h
theorem RepT.put {kvs : List (D × D)} {ks : List (List Key × V)} (r : RepT T G kvs ks) {k : List Key} {kd d : D} {v : V} (ek : kd.kd = some (.inr k)) (h : Rep T G d v) : RepT T G (putKv (.inr k) kd d kvs) (putK ks k v) := by
  unfold putKv putK
  rw [r.any k]
  by_cases hz : (ks.any fun kv => decide (kv.1 = k)) = true
  · rw [if_pos hz, if_pos hz]; exact r.map h
  · rw [if_neg hz, if_neg hz]; exact r.snoc ek h
/-- what a store does to an own dict -/
theorem dict_put {kvs : List (D × D)} {kd d : D} {q : KeyD} {a : Addr} {v w : V} (sub : Same G.Hf H) (t : Top T G H (.dct kvs) a) (hq : kd.kd = some q) (hh : homog q kvs = true) (hl : kvs.length < LIM) (rk : Rep T G kd w) (rv : Rep T G d v) :
    ∃ u, DPu H a w v (upd H a u) ∧ Top T G (upd H a u) (.dct (putKv q kd d kvs)) a := by
  have lim : ∀ n, n < LIM → n < sizeLine := fun n h => by rw [sizeLine_eq]; unfold LIM at h; omega
  rcases kd_cases hq with ⟨k, rfl, ek⟩ | ⟨l, xs, rfl, rfl, el⟩
  · have ew := k1_rep ek rk
    subst ew
    rcases t with ⟨ks, e, rr⟩ | ⟨ks, e, rr⟩
    · exact ⟨.dK (putK ks k v), .inl (DPut.k e (by rw [rr.length]; exact lim _ hl)), .inl ⟨_, upd_same, rr.put ek rv⟩⟩
    · cases kvs with
      | nil =>
        unfold RepT at rr
        subst rr
        refine ⟨.dK [(k, v)], .inr (.inr ⟨k, rfl, e, rfl⟩), .inl ⟨_, upd_same, ?_⟩⟩
        have z : RepK T G [] [] := by unfold RepK; rfl
        exact z.put ek rv
      | cons p kvs =>
        exfalso
        obtain ⟨kd', d'⟩ := p
        unfold RepT at rr
        obtain ⟨q', v', t', _, ek', _⟩ := rr
        unfold homog at hh
        rw [List.all_cons] at hh
        simp only [ek', sameKind, Bool.false_and] at hh
        cases hh
  · have rk0 := rk
    unfold Rep at rk
    obtain ⟨b, vs, ew, hb, rl⟩ := rk
    subst ew
    have e2 := k1L_rep el rl
    subst e2
    have hb := sub _ _ hb
    rcases t with ⟨ks, e, rr⟩ | ⟨ks, e, rr⟩
    · cases kvs with
      | nil =>
        unfold RepK at rr
        subst rr
        refine ⟨.dT [(l, v)], .inr (.inl ⟨l, b, rfl, hb, e, rfl⟩), .inr ⟨_, upd_same, ?_⟩⟩
        have z : RepT T G [] [] := by unfold RepT; rfl
        exact z.put hq rv
      | cons p kvs =>
        exfalso
        obtain ⟨kd', d'⟩ := p
        unfold RepK at rr
        obtain ⟨q', v', t', _, ek', _⟩ := rr
        unfold homog at hh
        rw [List.all_cons] at hh
        simp only [kd_of_k1 ek', sameKind, Bool.false_and] at hh
        cases hh
    · exact ⟨.dT (putK ks l v), .inl (DPut.t e hb (by rw [rr.length]; exact lim _ hl)), .inr ⟨_, upd_same, rr.put hq rv⟩⟩
theorem s_put {i : Nat} {x : Str} {k e : Expr} {ka a : E} {px tpos : Pos} (hu : X.A.units + 64 < cLine) (hN : X.N[i]? = some x) (hv : Vis X.env.scope x) (hd : (x == ("__debug__" : Str)) = false) (hcd : (x == ("__classdict__" : Str)) = false) (he : PE X e (tE T X.K W C a)) (hk : PE X k (tE T X.K W C ka))
    (hs : swapsWithSole [.Subscript (.Name x px) k tpos] e pos.line X.env = pure false) (hw : swappedStores [.Subscript (.Name x px) k tpos] e X.env = pure none)
    (h1 : (assignEach [.Subscript (.Name x px) k tpos] X.env).map (·.2) = [assign (.Subscript (.Name x px) k tpos) X.env])
    (ha : ∀ v, assign (.Subscript (.Name x px) k tpos) X.env v = (do
      let ov ← holding [v] (eval (.Name x px) X.env)
      let iv ← holding [v, ov] (eval k X.env)
      standAt tpos
      holding [v, ov, iv] (setItem ov iv v)
      release [v, ov, iv] [])) :
    PS X (.Assign [.Subscript (.Name x px) k tpos] e pos) (tS T X.K W C np (.put i ka a)) := by
  refine PS.imp (ps_asg he (pg_sub (pe_var hN hv hd hcd) hk (set_dict2 (by omega)) ha) hs hw h1) fun D σ H ⟨en, G, ρ, P, o, F, hnp, ev, kk⟩ => ?_
  unfold exec at ev
  refine thenO F ev kk fun d m P1 v G1 H1 F1 rr x1 ev1 => ?_
  have hm : m ≠ .bor := fun z => by subst z; cases ev1
  obtain ⟨G2, F2, x2, rep⟩ := F.frz F1 x1 rr hm
  have ev1 : (match ρ[i]? with
      | some (.own (.dct kvs)) => obnd (evalE C ka ρ P1) fun dk mk P => match mk with
        | .bor => none
        | _ => match dk.kd with
          | some q => if homog q kvs && decide (kvs.length < LIM) then some (O.next (ρ.set i (.own (.dct (putKv q dk d kvs)))) P) else none
          | none => none
      | _ => none) = some o := by
    cases m with
    | bor => exact absurd rfl hm
    | cold => exact ev1
    | fresh => exact ev1
  split at ev1
  rotate_left
  · cases ev1
  rename_i kvs hi
  obtain ⟨A, e1, n, npu, ne, t0⟩ := F2.st.own i _ hi
  refine ⟨.ref A, e1, thenO F2 ev1 (kk.mono x2.hf) fun dk mk P3 w G3 H3 F3 rk x3 ev3 => ?_⟩
  have hmk : mk ≠ .bor := fun z => by subst z; cases ev3
  have ev3 : (match dk.kd with
          | some q => if homog q kvs && decide (kvs.length < LIM) then some (O.next (ρ.set i (.own (.dct (putKv q dk d kvs)))) P3) else none
          | none => none) = some o := by
    cases mk with
    | bor => exact absurd rfl hmk
    | cold => exact ev3
    | fresh => exact ev3
  cases hq : dk.kd with
  | none => rw [hq] at ev3; cases ev3
  | some q =>
    rw [hq] at ev3
    dsimp only at ev3
    split at ev3
    · rename_i hz
      cases ev3
      rw [Bool.and_eq_true] at hz
      have rkc := key_cold hq hmk rk
      obtain ⟨A', e1', _, _, _, t3⟩ := F3.st.own i _ hi
      rw [e1] at e1'
      cases e1'
      obtain ⟨u, g, t4⟩ := dict_put F3.st.sub t3 hq hz.1 (of_decide_eq_true hz.2) rkc (Rep.mono x3.hf x3.p d rep)
      exact ⟨A, _, rfl, g, (kk.mono x2.hf) _ G3 _ x3.hf (F3.updOwn hi e1 t4)⟩
    · cases ev3
/-! for -/
theorem Fr.frzSlot (F : Fr T en G P H σ ρ) (it : It) : ∃ G', Fr T en G' P H σ (B.frz it ρ) ∧ Same G.Hf G'.Hf := by
  have no : ∃ G', Fr T en G' P H σ ρ ∧ Same G.Hf G'.Hf := ⟨G, F, Same.refl _⟩
  unfold B.frz
  split
  · rename_i i
    split
    · rename_i d hi
      obtain ⟨a, e1, n, np, ne, t⟩ := F.st.own i d hi
      obtain ⟨u, hu⟩ := t.there
      have s1 : Same G.Hf (upd G.Hf a u) := fun b o q => by rw [upd_ne (ne_of_none q n)]; exact q
      have s2 : Same (upd G.Hf a u) H := fun b o q => by
        by_cases hb : b = a
        · rw [hb, upd_same] at q; cases q; rw [hb]; exact hu
        · rw [upd_ne hb] at q; exact F.st.sub _ _ q
      have rep : Rep T ⟨upd G.Hf a u, G.p⟩ d (.ref a) := by
        cases d with
        | lst ds =>
          obtain ⟨vs, q, r⟩ := t
          rw [hu] at q
          cases q
          unfold Rep
          exact ⟨a, vs, rfl, upd_same, RepL.mono (G' := ⟨upd G.Hf a (.lst vs), G.p⟩) s1 rfl ds r⟩
        | dct kvs =>
          unfold Rep
          rcases t with ⟨ks, q, r⟩ | ⟨ks, q, r⟩
          · rw [hu] at q
            cases q
            exact ⟨a, rfl, .inl ⟨ks, upd_same, RepK.mono (G' := ⟨upd G.Hf a (.dK ks), G.p⟩) s1 rfl kvs r⟩⟩
          · rw [hu] at q
            cases q
            exact ⟨a, rfl, .inr ⟨ks, upd_same, RepT.mono (G' := ⟨upd G.Hf a (.dT ks), G.p⟩) s1 rfl kvs r⟩⟩
        | _ => exact t.elim
      have hl : i < ρ.length := by
        by_cases hl : i < ρ.length
        · exact hl
        · rw [List.getElem?_eq_none (by omega)] at hi; cases hi
      refine ⟨⟨upd G.Hf a u, G.p⟩, ⟨⟨s2, PuOk.mk (fun b hb => ?_) fun hb => F.st.pu.no hb, by rw [List.length_set]; exact F.st.len, fun j e h => ?_, fun j e h => ?_, fun j k e f b h1 h2 h3 h4 => ?_, F.st.ent⟩, ⟨F.ext.hf.trans s1, F.ext.p, s2, fun b o q => ?_, F.ext.keep⟩, F.par⟩, s1⟩
      · obtain ⟨q, e1, e2, e3⟩ := F.st.pu.at (a := b) hb
        exact ⟨q, e1, e2, by show upd G.Hf a u b = none; rw [upd_ne fun z => np (by rw [← z]; exact hb)]; exact e3⟩
      · by_cases hj : i = j
        · subst hj
          rw [List.getElem?_set_self hl] at h
          cases h
          exact ⟨.ref a, e1, rep⟩
        · rw [List.getElem?_set_ne hj] at h
          obtain ⟨v, h1, h2⟩ := F.st.cold j e h
          exact ⟨v, h1, Rep.mono (G' := ⟨upd G.Hf a u, G.p⟩) s1 rfl e h2⟩
      · by_cases hj : i = j
        · subst hj
          rw [List.getElem?_set_self hl] at h
          cases h
        · rw [List.getElem?_set_ne hj] at h
          obtain ⟨b, e2, n2, np2, ne2, t2⟩ := F.st.own j e h
          have nb : b ≠ a := fun z => hj (F.st.dist i j d e a hi h e1 (by rw [e2, z]))
          exact ⟨b, e2, by show upd G.Hf a u b = none; rw [upd_ne nb]; exact n2, np2, ne2, t2.mono (G1 := ⟨upd G.Hf a u, G.p⟩) s1 rfl fun o q => q⟩
      · have old : ∀ (j : Nat) e, (ρ.set i (.cold d))[j]? = some (.own e) → ρ[j]? = some (.own e) := fun j e h => by
          by_cases hj : i = j
          · subst hj; rw [List.getElem?_set_self hl] at h; cases h
          · rw [List.getElem?_set_ne hj] at h; exact h
        exact F.st.dist j k e f b (old j e h1) (old k f h2) h3 h4
      · have q : upd G.Hf a u b = some o := q
        by_cases hb : b = a
        · rw [hb]; exact .inr ne
        · rw [upd_ne hb] at q; exact F.ext.new b o q
    · exact no
  · exact no
theorem s_for {it : It} {tgt : Tg} {iter : Expr} {body : List Stmt} {bs : Ss} (hp : PassesOwn (model X.prog X.w) X.A X.env X.xe) (hc : X.calm = true) (hi : PI X tg iter (tItF T W C it)) (hg : PG X tg (tTg T tgt)) (hb : PSs X body (tSs T X.K W C np bs))
    (hsl : tgt.slots.all (fun i => decide (np ≤ i)) = true) (hs : ∀ x, foldedSetIterable iter X.env x = pure x) : PS X (.For tg iter body [] pos) (tS T X.K W C np (.forr tgt it bs)) := by
  refine PS.imp (ps_for hp hc hi hg hb hs) fun D σ H ⟨en, G, ρ, P, o, F0, hnp, ev, k⟩ => ?_
  unfold exec at ev
  obtain ⟨G0, F, s0⟩ := F0.frzSlot it
  generalize B.frz it ρ = ρ0 at ev F
  have k0 := k.mono s0
  cases e : evalItF C it ρ0 P with
  | none => rw [e] at ev; cases ev
  | some rl =>
    rw [e] at ev
    refine ⟨en.H, G0, ρ0, P, rl, F.st, e, ?_⟩
    cases rl with
    | exc c o' d P' =>
      cases ev
      exact fun v dd G' H' x pu rr hd n ho => k v dd σ G' H' (F.ext.trans F.st.pu x) pu rr hd (F.st.ent _ n) fun i hi w hw => by
        have e1 := ho i hi
        rw [F.par i w hw] at e1
        exact Option.some.inj (Option.some.inj e1)
    | ok xs P1 =>
      intro J G1 H1 x pu wk
      have F1 := F.step x pu
      have k1 := k0.mono x.hf
      dsimp only at ev
      refine ⟨fun i m σ H => m = xs.length - i ∧ i ≤ xs.length ∧ ∃ Gi ρi Pi, Fr T en Gi Pi H σ ρi ∧ Same G1.Hf Gi.Hf ∧ Gi.p = G1.p ∧ forGo (fun x ρ P => match tgt.put x ρ with
          | some ρ' => execs C bs ρ' P
          | none => none) (xs.drop i) ρi Pi = some o, ⟨xs.length, by simp, Nat.zero_le _, G1, ρ0, P1, F1, Same.refl _, rfl, ev⟩, ?_⟩
      rintro i m σi Hi ⟨rfl, hle, Gi, ρi, Pi, Fi, si, pi, gi⟩
      have tx : TEx G1 Gi Hi := ⟨si, pi, Fi.st.sub⟩
      by_cases hlt : i < xs.length
      · rw [List.drop_eq_getElem_cons hlt] at gi
        unfold forGo at gi
        refine .inr ⟨wk.go Gi Hi i tx hlt, _, fun σ' H' (p : ∃ Gi ρi Pi, Fr T en Gi Pi H' σ' ρi ∧ Same G1.Hf Gi.Hf ∧ Gi.p = G1.p ∧ forGo (fun x ρ P => match tgt.put x ρ with
          | some ρ' => execs C bs ρ' P
          | none => none) (xs.drop (i + 1)) ρi Pi = some o) => ⟨xs.length - (i + 1), by omega, rfl, hlt, p⟩, fun y H' hy => ?_⟩
        obtain ⟨e1, ry⟩ := wk.yld Gi Hi i y H' xs[i] tx hy (by simp [hlt])
        subst e1
        cases hput : tgt.put xs[i] ρi with
        | none => simp only [hput] at gi; cases gi
        | some ρ' =>
          simp only [hput] at gi
          refine ⟨en.H, Gi, ρi, Pi, xs[i], ρ', Fi.st, ry, hput, fun σ' S' hl hj => ?_⟩
          have F' := Fi.set S' (is := tgt.slots) (fun j hj => Nat.le_trans hnp (of_decide_eq_true (List.all_eq_true.mp hsl j hj))) hj
          cases e2 : execs C bs ρ' Pi with
          | none => simp only [e2] at gi; cases gi
          | some o1 =>
            simp only [e2] at gi
            refine ⟨en, Gi, ρ', Pi, o1, F', hnp, e2, ?_⟩
            cases o1 with
            | next ρ2 P2 => exact fun σ2 G2 H2 s2 F2 => ⟨G2, ρ2, P2, F2, si.trans s2, by rw [F2.ext.p, ← Fi.ext.p]; exact pi, gi⟩
            | ret d m P2 => cases gi; exact k
            | exc c o' d P2 => cases gi; exact k
      · have hi : i = xs.length := by omega
        subst hi
        rw [List.drop_eq_nil_of_le (Nat.le_refl _)] at gi
        unfold forGo at gi
        cases gi
        exact .inl ⟨wk.stop Gi Hi _ tx (Nat.le_refl _), k1 _ Gi Hi si Fi⟩
theorem repL3 {ds : List D} {u v w : V} (h : RepL T G ds [u, v, w]) : ∃ c d e, ds = [c, d, e] ∧ Rep T G c u ∧ Rep T G d v ∧ Rep T G e w := by
  cases ds with
  | nil => unfold RepL at h; cases h
  | cons c ds =>
    unfold RepL at h
    obtain ⟨_, _, e, h1, h2⟩ := h
    cases e
    obtain ⟨d, e, rfl, r1, r2⟩ := repL2 h2
    exact ⟨c, d, e, rfl, h1, r1, r2⟩
/-- a, b, c = x, y, z -/
theorem s_par3 {i j l : Nat} {x y z : Str} {a b c : Expr} {as : Es} {px py pz pt : Pos} {kt k2 pt2} (hc : X.calm = true) (hN : X.N.Nodup) (hi : X.N[i]? = some x) (hj : X.N[j]? = some y) (hl : X.N[l]? = some z) (hij : i ≠ j) (hil : i ≠ l) (hjl : j ≠ l)
    (hx : X.env.scope.names.lookup x = some .local) (hy : X.env.scope.names.lookup y = some .local) (hz : X.env.scope.names.lookup z = some .local) (ha : PA X [a, b, c] (tEs T W C as))
    (hw : swappedStores [.Tuple [.Name x px, .Name y py, .Name z pz] kt pt] (.Tuple [a, b, c] k2 pt2) X.env = pure (some [x, y, z]))
    (hs : swapsWithSole [.Tuple [.Name x px, .Name y py, .Name z pz] kt pt] (.Tuple [a, b, c] k2 pt2) pos.line X.env = pure false) (hlen : as.len = 3) (h1 : np ≤ i) (h2 : np ≤ j) (h3 : np ≤ l) :
    PS X (.Assign [.Tuple [.Name x px, .Name y py, .Name z pz] kt pt] (.Tuple [a, b, c] k2 pt2) pos) (tS T X.K W C np (.unp [i, j, l] (.tup as))) := by
  refine PS.imp (ps_par3 hc hN hi hj hl hij hil hjl hx hy hz ha hw hs) fun D σ H ⟨en, G, ρ, P, o, F, hnp, ev, k⟩ => ?_
  unfold exec evalE at ev
  show tEs T W C as σ H _
  cases e : evalEs C as ρ P with
  | none => rw [e] at ev; cases ev
  | some ra =>
    rw [e] at ev
    refine ⟨en.H, G, ρ, P, ra, F.st, e, ?_⟩
    cases ra with
    | exc c o' d P' =>
      cases ev
      exact fun v dd G' H' x pu rr hd n ho => k v dd σ G' H' (F.ext.trans F.st.pu x) pu rr hd (F.st.ent _ n) fun i hi w hw => by
        have e1 := ho i hi
        rw [F.par i w hw] at e1
        exact Option.some.inj (Option.some.inj e1)
    | ok ds P1 =>
      intro vs G1 H1 x1 pu rl _
      have hds := evalEs_len e
      rw [hlen] at hds
      have hvs := rl.length
      match vs, hvs.trans hds with
      | [u, v, w], _ =>
        obtain ⟨c, d, e', rfl, r1, r2, r3⟩ := repL3 rl
        cases ev
        refine ⟨u, v, w, rfl, k _ G1 H1 x1.hf ((F.step x1 pu).set ((((F.step x1 pu).st.setCold i r1).setCold j r2).setCold l r3) (is := [i, j, l]) (fun z hz => ?_) fun z hz => ?_)⟩
        · simp only [List.mem_cons, List.not_mem_nil, or_false] at hz
          rcases hz with z | z | z <;> omega
        · simp only [List.mem_cons, List.not_mem_nil, or_false, not_or] at hz
          rw [List.getElem?_set_ne fun q => hz.2.2 q.symm, List.getElem?_set_ne fun q => hz.2.1 q.symm, List.getElem?_set_ne fun q => hz.1 q.symm]
/-! a group of statements with a tail that is read otherwise -/
def tSsT (T : Tb) (K : PySem.W.Frag) (W : WX) (C : Calls) (np : Nat) (ss : Ss) (u : TS) : TS := fun D σ H => tSs T K W C np ss { D with nx := u D } σ H
theorem s_nilT {rest : List Stmt} {u : TS} (h : PSs X rest u) : PSs X rest (tSsT T X.K W C np .nil u) := PSs.imp h fun D σ H ⟨en, G, ρ, P, o, F, hnp, ev, k⟩ => by
  unfold execs at ev
  cases ev
  exact k _ G H (Same.refl _) F
theorem s_consT {st : Stmt} {rest : List Stmt} {s : S} {ss : Ss} {u : TS} (h1 : PS X st (tS T X.K W C np s)) (h2 : PSs X rest (tSsT T X.K W C np ss u)) : PSs X (st :: rest) (tSsT T X.K W C np (.cons s ss) u) := by
  refine PSs.imp (pss_cons h1 h2) fun D σ H ⟨en, G, ρ, P, o, F, hnp, ev, k⟩ => ?_
  unfold execs at ev
  cases e : exec C s ρ P with
  | none => rw [e] at ev; cases ev
  | some o1 =>
    rw [e] at ev
    refine ⟨en, G, ρ, P, o1, F, hnp, e, ?_⟩
    cases o1 with
    | next ρ1 P1 => exact fun σ' G' H' s F' => ⟨en, G', ρ1, P1, o, F', hnp, ev, k.mono s⟩
    | ret d m P1 => cases ev; exact k
    | exc c o' d P1 => cases ev; exact k
end
end B


/-! .. dict displays. -/
namespace B
open PySem PySem.Spec L2
section
variable {T : Tb} {X : Cx} {K : PySem.W.Frag} {W WB : WX} {C : Calls} {Hen : Hp} {G G1 : Gh} {P P1 : Option Pu} {H H0 H1 : Hp} {σ : St} {ρ : Sl} {Q Q' : VK} {r : R} {pos : Pos}
def KontL0 (T : Tb) (W : WX) (G : Gh) (H : Hp) (σ : St) (r : RL) (Q : List V → Hp → Prop) : Prop := match r with
  | .ok ds P => ∀ vs G' H', Ext G H G' H' → PuOk G' P H' → RepL T G' ds vs → Q vs H'
  | .exc c o d P => ∀ v dd G' H', Ext G H G' H' → PuOk G' P H' → Rep T G' d v → H' dd = some (.xd [("value", v)]) → H dd = none → (∀ i, o = some i → σ[i]? = some (some v)) → W (.ref (T.ecl c)) (some dd) σ H'
def tEs0 (T : Tb) (W : WX) (C : Calls) (es : Es) : TA := fun σ H Q => ∃ Hen G ρ P r, StOk T Hen G P H σ ρ ∧ evalEs C es ρ P = some r ∧ KontL0 T W G H σ r Q
theorem cons_imp {a : E} {as : Es} : ∀ σ H (Q : List V → Hp → Prop), tEs0 T W C (.cons a as) σ H Q → tE T K W C a σ H fun v H1 => tEs0 T W C as σ H1 fun vs H2 => Q (v :: vs) H2 := by
  intro σ H Q ⟨Hen, G, ρ, P, r, S, ev, k⟩
  unfold evalEs at ev
  cases e1 : evalE C a ρ P with
  | none => rw [e1] at ev; cases ev
  | some ra =>
    rw [e1] at ev
    refine ⟨Hen, G, ρ, P, ra, S, e1, ?_⟩
    cases ra with
    | exc c o d P' => cases ev; exact k
    | ok d m P' =>
      intro v G1 H1 x pu rr
      have hm : m ≠ .bor := fun z => by subst z; cases ev
      obtain ⟨G2, ep, s1, s2, s3, pu2, rep⟩ := rr.freeze x.sub hm pu fun _ _ => trivial
      have x2 : Ext G H G2 H1 := ⟨x.hf.trans s1, ep.trans x.p, s2, fun b o q => (s3 b o q).elim (x.new b o) .inr, x.keep⟩
      have ev : (match evalEs C as ρ P' with
        | some (.ok ds P) => some (RL.ok (d :: ds) P)
        | some (.exc c o d P) => some (.exc c o d P)
        | none => none) = some r := by
        cases m with
        | bor => exact absurd rfl hm
        | cold => exact ev
        | fresh => exact ev
      have S2 := S.ext x2 pu2
      cases e2 : evalEs C as ρ P' with
      | none => rw [e2] at ev; cases ev
      | some rs =>
        rw [e2] at ev
        refine ⟨Hen, G2, ρ, P', rs, S2, e2, ?_⟩
        cases rs with
        | exc c o d2 P2 =>
          cases ev
          exact fun w dd G3 H3 y pu3 rr3 e3 n3 ho => k w dd G3 H3 (x2.trans pu2 y) pu3 rr3 e3 (x2.back pu2 n3) ho
        | ok ds P2 =>
          cases ev
          intro vs G3 H3 y pu3 rr3
          refine k (v :: vs) G3 H3 (x2.trans pu2 y) pu3 ?_
          unfold RepL
          exact ⟨v, vs, rfl, Rep.mono y.hf y.p d rep, rr3⟩
def flat : List (V × V) → List V
  | [] => []
  | p :: r => p.1 :: p.2 :: flat r
def trsOf (T : Tb) (K : PySem.W.Frag) (W : WX) (C : Calls) : Es → List (TE × TE)
  | .cons k (.cons v r) => (tE T K W C k, tE T K W C v) :: trsOf T K W C r
  | _ => []
theorem TE_mono {e : E} {σ : St} {H : Hp} (h : tE T K W C e σ H Q) (i : ∀ v H', Q v H' → Q' v H') : tE T K W C e σ H Q' := by
  obtain ⟨Hen, G, ρ, P, r, S, ev, k⟩ := h
  refine ⟨Hen, G, ρ, P, r, S, ev, ?_⟩
  cases r with
  | ok d m P => exact fun v G' H' x pu rr => i _ _ (k v G' H' x pu rr)
  | exc c o d P => exact k
theorem pairs_of : ∀ (n : Nat) {es : Es}, es.len = 2 * n → ∀ σ H (Q : List (V × V) → Hp → Prop), (tEs0 T W C es σ H fun vs H' => ∀ ps, vs = flat ps → Q ps H') → tPairs (trsOf T K W C es) σ H Q
  | 0, .nil, _, σ, H, Q, ⟨Hen, G, ρ, P, r, S, ev, k⟩ => by
    unfold evalEs at ev
    cases ev
    exact k [] G H (Ext.refl S.sub) S.pu (by unfold RepL; rfl) [] rfl
  | 0, .cons a as, h, σ, H, Q, _ => by unfold Es.len at h; omega
  | n + 1, .nil, h, σ, H, Q, _ => by unfold Es.len at h; omega
  | n + 1, .cons a .nil, h, σ, H, Q, _ => by unfold Es.len Es.len at h; omega
  | n + 1, .cons a (.cons b r), h, σ, H, Q, w => by
    show tE T K W C a σ H _
    refine TE_mono (cons_imp σ H _ w) fun x H1 w1 => ?_
    refine TE_mono (cons_imp σ H1 _ w1) fun y H2 w2 => ?_
    refine pairs_of n (by unfold Es.len Es.len at h; omega) σ H2 _ ?_
    obtain ⟨Hen, G, ρ, P, r, S, ev, k⟩ := w2
    refine ⟨Hen, G, ρ, P, r, S, ev, ?_⟩
    cases r with
    | ok ds P => exact fun vs G' H' x pu rr ps e => k vs G' H' x pu rr ((_, _) :: ps) (by rw [e]; rfl)
    | exc c o d P => exact k
theorem s_dnew : PE X (.Dict [] [] pos) (tE T X.K W C .dnew) := PE.imp pe_dnewK fun σ H Q ⟨Hen, G, ρ, P, r, S, ev, k⟩ p n => by
  unfold evalE at ev
  cases ev
  obtain ⟨x, pu, nf, np⟩ := ext_new (o := .dK []) S n
  exact k _ G _ x pu ⟨p, rfl, nf, np, n, .inl ⟨[], upd_same, by unfold RepK; rfl⟩⟩
theorem flat_len : ∀ ps : List (V × V), (flat ps).length = 2 * ps.length
  | [] => rfl
  | p :: r => by
    show ((flat r).length + 1) + 1 = _
    rw [flat_len r, List.length_cons]
    omega
theorem kd_k1 {d : D} {k : Key} (h : d.k1 = some k) : d.kd = some (.inl k) := kd_of_k1 h
theorem mkD_rep : ∀ (ps : List (V × V)) {ds : List D} {acc out : List (D × D)} {ks : List (Key × V)}, mkD ds acc = some out → RepL T G ds (flat ps) → RepK T G acc ks → ∃ kvs : List (Key × V), ps = kvs.map (fun kv => (kV kv.1, kv.2)) ∧ RepK T G out (mergeK ks kvs)
  | [], ds, acc, out, ks, h, r, ra => by
    cases ds with
    | nil =>
      unfold mkD at h
      cases h
      exact ⟨[], rfl, ra⟩
    | cons d ds =>
      unfold RepL at r
      obtain ⟨_, _, e, _⟩ := r
      cases e
  | p :: ps, ds, acc, out, ks, h, r, ra => by
    cases ds with
    | nil => unfold RepL at r; cases r
    | cons kd ds =>
      unfold RepL at r
      obtain ⟨v1, t1, e1, r1, r2⟩ := r
      cases ds with
      | nil =>
        unfold mkD at h
        cases h
      | cons d ds =>
        unfold RepL at r2
        obtain ⟨v2, t2, e2, r3, r4⟩ := r2
        subst e2
        have e1 : p.1 :: p.2 :: flat ps = v1 :: v2 :: t2 := e1
        cases e1
        unfold mkD at h
        cases ek : kd.k1 with
        | none => rw [ek] at h; cases h
        | some q =>
          rw [ek] at h
          obtain ⟨kvs, e3, r5⟩ := mkD_rep ps h r4 (ra.put ek r3)
          refine ⟨(q, p.2) :: kvs, ?_, r5⟩
          rw [List.map_cons, ← e3, ← k1_rep ek r1]
theorem s_dsp {es : Es} {keys : List (Option Expr)} {values : List Expr} (h : PPs X pos keys values (trsOf T X.K W C es)) (hall : keys.all (·.isSome) = true) (hl : keys.length = values.length) (h0 : keys ≠ []) (h15 : keys.length ≤ 15) (hlen : es.len = 2 * keys.length) :
    PE X (.Dict keys values pos) (tE T X.K W C (.dsp es)) := by
  refine PE.imp (pe_disp h hall hl h0 h15) fun σ H Q ⟨Hen, G, ρ, P, r, S, ev, k⟩ p n => ?_
  obtain ⟨x, pu, nf, np⟩ := ext_new (o := .dK []) S n
  have S' := S.ext x pu
  refine pairs_of _ hlen σ _ _ ?_
  unfold evalE at ev
  cases e1 : evalEs C es ρ P with
  | none => rw [e1] at ev; cases ev
  | some ra =>
    rw [e1] at ev
    refine ⟨Hen, G, ρ, P, ra, S', e1, ?_⟩
    cases ra with
    | exc c o d P' =>
      cases ev
      exact fun w dd G3 H3 y pu3 rr3 e3 n3 ho => k w dd G3 H3 (x.trans pu y) pu3 rr3 e3 (x.back pu n3) ho
    | ok ds P1 =>
      intro vs G1 H1 x1 pu1 rl ps evs
      subst evs
      have ev : (match mkD ds [] with
        | some kvs => if ds.length ≤ 30 then some (R.ok (.dct kvs) .fresh P1) else none
        | none => none) = some r := ev
      cases em : mkD ds [] with
      | none => rw [em] at ev; cases ev
      | some out =>
        rw [em] at ev
        have ev : (if ds.length ≤ 30 then some (R.ok (.dct out) .fresh P1) else none) = some r := ev
        split at ev
        · rename_i hz
          cases ev
          have hp1 : H1 p = some (.dK []) := x1.keep p _ upd_same np
          obtain ⟨kvs, ep, rk⟩ := mkD_rep (ks := []) ps em rl (by unfold RepK; rfl)
          have nf1 : G1.Hf p = none := by
            cases q : G1.Hf p with
            | none => rfl
            | some o =>
              rcases x1.new p o q with z | z
              · rw [nf] at z; cases z
              · rw [upd_same] at z; cases z
          have np1 : G1.p ≠ some p := by rw [x1.p]; exact np
          refine ⟨hp1, kvs, ep, ?_, k _ G1 _ ⟨x1.hf, x1.p, fun b o q => ?_, fun b o q => ?_, fun b o q hb => ?_⟩ (PuOk.mk (fun b hb => ?_) fun hb => pu1.no hb) ⟨p, rfl, nf1, np1, n, .inl ⟨_, upd_same, rk⟩⟩⟩
          · have l1 := rl.length
            have l2 : ps.length = kvs.length := by rw [ep, List.length_map]
            rw [flat_len] at l1
            omega
          · rw [upd_ne (ne_of_none q nf1)]; exact x1.sub b o q
          · rcases x1.new b o q with z | z
            · exact .inl z
            · exact .inr (x.back pu z)
          · rw [upd_ne (ne_of_none q n)]
            exact x1.keep b o (by rw [upd_ne (ne_of_none q n)]; exact q) hb
          · obtain ⟨q, e1, e2, e3⟩ := pu1.at hb
            exact ⟨q, e1, by rw [upd_ne fun z => np1 (by rw [← z]; exact hb)]; exact e2, e3⟩
        · cases ev
end
end B


/-! Promises of defs that run where no repr is under way (HandS.Call's promise, with that one thing more known of what is around; the ways are its ways). -/
namespace B
open PySem PySem.Spec PyProof.Rows L2
structure FnG (P : Program) (w : World) (K : PySem.W.Frag) (mg : Str → Option Value) (base : Heap) (CX : CXT) (k : Nat) (f : Addr) (fd : FuncData) (ps : List Str) (sp : Sp) : Prop where
  len : ∀ vs H Q E, sp vs H Q E → vs.length = ps.length
  run : ∀ (A : Around) (outer : List Env) (s : Shared) (H : Hp) (args : Args) (us : List Value) (vs : List V) (Q : VK) (E : XK), Room k A → A.guards = some [] → Env0 P w K mg base A outer s H → BindsTo s fd args (ps.zip us) → Vals vs us → sp vs H Q E →
    codeAny (model P w) A (.call (.ref f) args) (CR CX outer P w H s Q E) s
section
variable {P : Program} {w : World} {K : PySem.W.Frag} {mg : Str → Option Value} {base : Heap} {CX : CXT} {k j : Nat} {f : Addr} {fd : FuncData} {ps N : List Str} {sp : Sp} {x qual : Str} {st : Stmt}
theorem FnG.of (F : FnOk P w K mg base CX k f fd ps sp) : FnG P w K mg base CX k f fd ps sp := ⟨F.len, fun A outer s H args us vs Q E hr _ => F.run A outer s H args us vs Q E hr⟩
theorem FnG.mono (F : FnG P w K mg base CX j f fd ps sp) (h : j ≤ k) : FnG P w K mg base CX k f fd ps sp := ⟨F.len, fun A outer s H args us vs Q E hr => F.run A outer s H args us vs Q E (hr.mono h)⟩
/-- a def of the text by its body -/
theorem fnG_of (F : Fun K x qual st f fd) (S : FnScope N ps (defScope st)) (len : ∀ vs H Q E, sp vs H Q E → vs.length = ps.length)
    (hbody : ∀ (cdv : Value) (A : Around) (outer : List Env) (s : Shared) (H : Hp) (vs : List V) (Q : VK) (E : XK), Room k (A.deeper (envOfC qual (defScope st) s.heap.objs.size f cdv)) → A.guards = some [] → sp vs H Q E →
      ∃ t, PSs (cxOf CX P w K mg base N qual (defScope st) f cdv A outer s H E) (defBody st) t ∧ t { nx := fun _ H' => Q .non H', rt := Q } (L2.start N vs) H) : FnG P w K mg base CX (k + 1) f fd ps sp := by
  obtain ⟨oc, od, kV, doc, pm, an, cdv, ct, osl, rfl, lk, hcd⟩ := F.ex
  refine ⟨len, fun A outer s H args us vs Q E hr hgd e0 hb r hsp => ?_⟩
  have KX : K.In s.heap := e0.mod.kin.keeps fun b o e => (e0.bs b o e).1
  refine codeAny_call_function hr.depth (KX _ _ lk) rfl S.co S.gen rfl (PySem.W.codeRec_of KX hcd) (hb _ _ _ _ ?_)
  have own : ∀ y ∈ ps.zip us, (defScope st).names.lookup y.1 = some .local ∨ ((defScope st).names.lookup y.1 = some .cell ∧ ((cellsFrom (s.heap.objs.size + 1) (defScope st).names []).lookup y.1).isSome = true) := fun y hy =>
    (S.par y.1 (List.of_mem_zip (a := y.1) (b := y.2) hy).1).imp id fun q => ⟨q, PySem.W.cellsFrom_some _ _ _ (.inl q)⟩
  refine wpAny_newFunctionEnv_cells S.kind own fun env he s1 ic => ?_
  subst he
  refine ⟨(e0.mod.nolimit.keeps fun b o e => (e0.bs b o e).1).keeps ic.toInCall.keep, codeAny_func ?_⟩
  obtain ⟨t, ht, hq⟩ := hbody cdv A outer s H vs Q E (hr.deeper _) hgd hsp
  refine wpAny_mono (ht.run [] s1 (L2.start N vs) H _ (inv_start S hr.hd e0 (len _ _ _ _ hsp) r ic) hq) (fun fl s' hs => ?_) fun e s' hs => hs
  cases fl with
  | ret u => obtain ⟨v, σ', H', J, rv, q⟩ := hs; exact ⟨v, H', J.os, J.bare, J.base, J.hok, rv, q⟩
  | next => obtain ⟨σ', H', J, q⟩ := hs; exact ⟨.non, H', J.os, J.bare, J.base, J.hok, rfl, q⟩
  | brk => obtain ⟨_, _, _, q⟩ := hs; exact q.elim
  | cont => obtain ⟨_, _, _, q⟩ := hs; exact q.elim
end
section
variable {X : Cx} {CX : CXT} {k : Nat} {f : Addr} {fd : FuncData} {ps : List Str} {sp : Sp} {E : XK} {x : Str} {p pos : Pos} {e : Expr} {es : List Expr} {t : TA}
theorem runG {pins : List (Addr × Obj)} {σ : L2.St} {H : Hp} {s : Shared} {Q : VK} {us : List Value} {vs : List V} (F : FnG X.prog X.w X.K X.mg X.base CX k f fd ps sp) (hr : Room k X.A) (hgd : X.A.guards = some []) (hb : Binds X.K fd ps []) (hx : Passes CX X E)
    (I : Inv X pins σ H s) (r : Vals vs us) (h : sp vs H Q E) : wpAny (model X.prog X.w) X.A (call (.ref f) us) (EP X pins σ Q) X.xe s := by
  have b := hb s us I.kIn (by rw [List.append_nil, ← r.length]; exact F.len _ _ _ _ h)
  rw [List.append_nil] at b
  refine wpAny_call (codeAny_mono (F.run X.A X.stack s H ⟨us, []⟩ us vs Q E hr hgd I.env0 b r h) fun fin s' q => ?_)
  cases fin with
  | error er => exact hx pins σ H s er s' I q
  | ok fl => cases fl with
    | ret u => exact I.after q
    | _ => exact False.elim q
theorem nil_app {sp : Sp} {vs : List V} {H : Hp} {Q : VK} {E : XK} (q : sp (vs ++ []) H Q E) : sp vs H Q E := by
  rw [List.append_nil] at q
  exact q
theorem peG_call (F : FnG X.prog X.w X.K X.mg X.base CX k f fd ps sp) (hr : Room k X.A) (hgd : X.A.guards = some []) (hg : Gl X x) (hm : X.mg x = some (.ref f)) (hk : PySem.W.keepIn X.K (.ref f) = true) (hb : Binds X.K fd ps []) (hx : Passes CX X E)
    (ha : PA X (e :: es) t) (hdb : (x == ("__debug__" : Str)) = false) (he : starEach (e :: es) X.env = (false, eval e X.env) :: starEach es X.env) (hpl : (backTo pos (starEach es X.env)).any (·.1) = false) :
    PE X (.Call (.Name x p) (e :: es) [] pos) (tCall sp [] E t) :=
  ⟨fun pins s σ H Q I h => wpAny_Call_Name_kw (ld_glob I hg hm (PySem.W.callWith_K (h₀ := X.base) I.ok.mod.kin hk (thn (ha.run pos pins s σ H _ I h) fun us s1 ⟨vs, H1, I1, r, q⟩ => ⟨I1.kIn, runG (Q := Q) F hr hgd hb hx I1 r (nil_app q)⟩) he hpl) hdb)⟩
theorem peG_call0 (F : FnG X.prog X.w X.K X.mg X.base CX k f fd ps sp) (hr : Room k X.A) (hgd : X.A.guards = some []) (hg : Gl X x) (hm : X.mg x = some (.ref f)) (hk : PySem.W.keepIn X.K (.ref f) = true) (hb : Binds X.K fd ps []) (hx : Passes CX X E) (hdb : (x == ("__debug__" : Str)) = false) :
    PE X (.Call (.Name x p) [] [] pos) (tCall sp [] E tNil) :=
  ⟨fun pins s σ H Q I h => wpAny_Call_Name_kw (ld_glob I hg hm (PySem.W.callWith_K0 I.kIn hk (runG (us := []) (vs := []) (Q := Q) F hr hgd hb hx I .nil h)) hdb)⟩
end
end B


/-! .. calls, and what a def promises. -/
namespace B
open PySem PySem.Spec L2
def KontF (T : Tb) (K : PySem.W.Frag) (G : Gh) (H : Hp) (vs : List V) (r : R) (Q : VK) (E : XK) : Prop := match r with
  | .ok d m P => ∀ v G' H', Ext G H G' H' → PuOk G' P H' → RRes T K H G' H' d v m → Q v H'
  | .exc c o d P => ∀ v dd G' H', Ext G H G' H' → PuOk G' P H' → Rep T G' d v → H' dd = some (.xd [("value", v)]) → H dd = none → (∀ i, o = some i → vs[i]? = some v) → E (.ref (T.ecl c)) (some dd) H'
/-- what the def g promises, so many calls deep -/
def spB (T : Tb) (K : PySem.W.Frag) (C : Calls) (g n : Nat) : Sp := fun vs H Q E => ∃ G P ds r, vs.length = n ∧ Same G.Hf H ∧ PuOk G P H ∧ RepL T G ds vs ∧ C g ds P = some r ∧ KontF T K G H vs r Q E
abbrev WE (E : XK) : WX := fun cls d _ H => E cls d H
/-- a def of n parameters that is called by its name -/
structure CalB (P : Program) (w : World) (K : PySem.W.Frag) (mg : Str → Option Value) (base : Heap) (T : Tb) (k : Nat) (C : Calls) (g : Nat) (x : Str) (n : Nat) : Prop where
  ok : ∃ fd ps, ps.length = n ∧ FnG P w K mg base (L2.CX P w) k (T.fad g) fd ps (spB T K C g ps.length) ∧ Binds K fd ps []
  gl : mg x = some (.ref (T.fad g))
  kp : PySem.W.keepIn K (.ref (T.fad g)) = true
section
variable {T : Tb} {X : Cx} {K : PySem.W.Frag} {W WB : WX} {E0 : XK} {C : Calls} {np : Nat} {en : En} {Hen : Hp} {G G1 : Gh} {P P1 : Option Pu} {H H0 H1 : Hp} {σ : St} {ρ : Sl} {Q Q' : VK} {r : R} {tg : Expr} {Z : Ends} {o : O} {pos : Pos}
theorem call_imp {as : Es} {g n : Nat} (hl : as.len = n) : ∀ σ H Q, tE T K (WE E0) C (.call g as) σ H Q → tCall (spB T K C g n) [] E0 (tEs T (WE E0) C as) σ H Q := by
  intro σ H Q ⟨Hen, G, ρ, P, r, S, ev, k⟩
  unfold evalE at ev
  cases e1 : evalEs C as ρ P with
  | none => rw [e1] at ev; cases ev
  | some ra =>
    rw [e1] at ev
    refine ⟨Hen, G, ρ, P, ra, S, e1, ?_⟩
    cases ra with
    | exc c o d P' => cases ev; exact k
    | ok ds P1 =>
      intro vs G1 H1 x pu rl hv
      have ev : reO as (C g ds P1) = some r := ev
      have hlen : vs.length = n := by rw [rl.length, evalEs_len e1, hl]
      cases e2 : C g ds P1 with
      | none => rw [e2] at ev; cases ev
      | some r1 =>
        rw [e2] at ev
        refine ⟨G1, P1, ds, r1, by rw [List.append_nil]; exact hlen, x.sub, pu, by rw [List.append_nil]; exact rl, e2, ?_⟩
        rw [List.append_nil]
        cases r1 with
        | ok d m P2 =>
          cases ev
          exact fun v G' H' x' pu' rr => k v G' H' (x.trans pu x') pu' (rr.later fun a n => x.back pu n)
        | exc c o d P2 =>
          cases ev
          refine fun v dd G' H' x' pu' rr hd hn ho => k v dd G' H' (x.trans pu x') pu' rr hd (x.back pu hn) fun i hi => ?_
          cases o with
          | none => cases hi
          | some j =>
            obtain ⟨w, h1, h2⟩ := hv j i hi
            rw [ho j rfl] at h1
            cases h1
            exact h2
end
/-- f(e, ..) -/
theorem s_call {X : Cx} {T : Tb} {E0 : XK} {C : Calls} {k g : Nat} {x : Str} {p pos : Pos} {e : Expr} {es : List Expr} {as : Es} {fd : FuncData} {ps : List Str} (F : FnG X.prog X.w X.K X.mg X.base (L2.CX X.prog X.w) k (T.fad g) fd ps (spB T X.K C g ps.length)) (hb : Binds X.K fd ps []) (hm : X.mg x = some (.ref (T.fad g)))
    (hk : PySem.W.keepIn X.K (.ref (T.fad g)) = true) (hr : Room k X.A) (hgd : X.A.guards = some []) (hg : Gl X x) (hx : Passes (L2.CX X.prog X.w) X E0) (ha : PA X (e :: es) (tEs T (WE E0) C as)) (hl : as.len = ps.length) (hdb : (x == ("__debug__" : Str)) = false)
    (he : starEach (e :: es) X.env = (false, eval e X.env) :: starEach es X.env) (hpl : (backTo pos (starEach es X.env)).any (·.1) = false) :
    PE X (.Call (.Name x p) (e :: es) [] pos) (tE T X.K (WE E0) C (.call g as)) := PE.imp (peG_call F hr hgd hg hm hk hb hx ha hdb he hpl) (call_imp hl)
theorem s_call0 {X : Cx} {T : Tb} {E0 : XK} {C : Calls} {k g : Nat} {x : Str} {p pos : Pos} {fd : FuncData} {ps : List Str} (F : FnG X.prog X.w X.K X.mg X.base (L2.CX X.prog X.w) k (T.fad g) fd ps (spB T X.K C g ps.length)) (hb : Binds X.K fd ps []) (hm : X.mg x = some (.ref (T.fad g)))
    (hk : PySem.W.keepIn X.K (.ref (T.fad g)) = true) (hr : Room k X.A) (hgd : X.A.guards = some []) (hg : Gl X x) (hx : Passes (L2.CX X.prog X.w) X E0) (hl : ps.length = 0) (hdb : (x == ("__debug__" : Str)) = false) :
    PE X (.Call (.Name x p) [] [] pos) (tE T X.K (WE E0) C (.call g .nil)) := PE.imp (peG_call0 F hr hgd hg hm hk hb hx hdb) fun σ H Q h => by
  obtain ⟨Hen, G, ρ, P, r, S, ev, k⟩ := h
  unfold evalE evalEs at ev
  have ev : reO .nil (C g [] P) = some r := ev
  show spB T X.K C g ps.length ([] ++ []) H Q E0
  cases e2 : C g [] P with
  | none => rw [e2] at ev; cases ev
  | some r1 =>
    rw [e2] at ev
    refine ⟨G, P, [], r1, by rw [hl]; rfl, S.sub, S.pu, by unfold RepL; rfl, e2, ?_⟩
    cases r1 with
    | ok d m P2 => cases ev; exact k
    | exc c o d P2 =>
      cases ev
      exact fun v dd G' H' x' pu' rr hd hn ho => k v dd G' H' x' pu' rr hd hn fun i hi => by
        cases o with
        | none => cases hi
        | some j => cases hi
theorem CalB.pe {X : Cx} {T : Tb} {E0 : XK} {C : Calls} {k g n : Nat} {x : Str} {p pos : Pos} {e : Expr} {es : List Expr} {as : Es} (c : CalB X.prog X.w X.K X.mg X.base T k C g x n) (hr : Room k X.A) (hgd : X.A.guards = some []) (hg : Gl X x) (hx : Passes (L2.CX X.prog X.w) X E0) (ha : PA X (e :: es) (tEs T (WE E0) C as))
    (hl : as.len = n) (hdb : (x == ("__debug__" : Str)) = false) (he : starEach (e :: es) X.env = (false, eval e X.env) :: starEach es X.env) (hpl : (backTo pos (starEach es X.env)).any (·.1) = false) :
    PE X (.Call (.Name x p) (e :: es) [] pos) (tE T X.K (WE E0) C (.call g as)) := by
  obtain ⟨⟨fd, ps, hn, F, hb⟩, gl, kp⟩ := c
  exact s_call F hb gl kp hr hgd hg hx ha (hl.trans hn.symm) hdb he hpl
theorem CalB.pe0 {X : Cx} {T : Tb} {E0 : XK} {C : Calls} {k g : Nat} {x : Str} {p pos : Pos} (c : CalB X.prog X.w X.K X.mg X.base T k C g x 0) (hr : Room k X.A) (hgd : X.A.guards = some []) (hg : Gl X x) (hx : Passes (L2.CX X.prog X.w) X E0) (hdb : (x == ("__debug__" : Str)) = false) :
    PE X (.Call (.Name x p) [] [] pos) (tE T X.K (WE E0) C (.call g .nil)) := by
  obtain ⟨⟨fd, ps, hn, F, hb⟩, gl, kp⟩ := c
  exact s_call0 F hb gl kp hr hgd hg hx hn hdb
theorem start_get {N : List Str} {vs : List V} {i : Nat} {v : V} (h : vs[i]? = some v) : (L2.start N vs)[i]? = some (some v) := by
  unfold L2.start
  have hl : i < vs.length := by
    by_cases hl : i < vs.length
    · exact hl
    · rw [List.getElem?_eq_none (by omega)] at h; cases h
  rw [List.getElem?_append_left (by simpa using hl), List.getElem?_map, h]
  rfl
theorem startS_get {n i : Nat} {ds : List D} {s : Slot} (h : (startS n ds)[i]? = some s) : (∃ d, ds[i]? = some d ∧ s = .cold d) ∨ s = .no := by
  unfold startS at h
  by_cases hl : i < ds.length
  · rw [List.getElem?_append_left (by simpa using hl), List.getElem?_map] at h
    cases e : ds[i]? with
    | none => rw [e] at h; cases h
    | some d => rw [e] at h; cases h; exact .inl ⟨d, rfl, rfl⟩
  · rw [List.getElem?_append_right (by simpa using Nat.le_of_not_lt hl), List.getElem?_replicate] at h
    split at h
    · cases h; exact .inr rfl
    · cases h
theorem start_ok {T : Tb} {G : Gh} {P : Option Pu} {H : Hp} {N : List Str} {vs : List V} {ds : List D} (s : Same G.Hf H) (pu : PuOk G P H) (r : RepL T G ds vs) : StOk T H G P H (L2.start N vs) (startS N.length ds) where
  sub := s
  pu := pu
  len := by unfold L2.start startS; rw [List.length_append, List.length_append, List.length_map, List.length_map, List.length_replicate, List.length_replicate, r.length]
  cold := fun i d e => by
    rcases startS_get e with ⟨d', h1, h2⟩ | h
    · cases h2
      obtain ⟨v, hv, rv⟩ := r.get h1
      exact ⟨v, start_get hv, rv⟩
    · cases h
  own := fun i d e => by
    rcases startS_get e with ⟨d', h1, h2⟩ | h
    · cases h2
    · cases h
  dist := fun i j d e a h1 h2 h3 h4 => by
    rcases startS_get h1 with ⟨d', h1, h2⟩ | h
    · cases h2
    · cases h
  ent := fun b n => n
/-- a def's promise out of its body -/
theorem body_ok {T : Tb} {K : PySem.W.Frag} {C C' : Calls} {g : Nat} {f : Fd} {N : List Str} {vs : List V} {H : Hp} {Q : VK} {E : XK} (hC : ∀ ds P, C' g ds P = runFd C f ds P) (hN : N.length = f.ns) (h : spB T K C' g f.np vs H Q E) :
    tSs T K (WE E) C (if f.fix then f.np else 0) f.body { nx := fun _ H' => Q .non H', rt := Q } (L2.start N vs) H := by
  obtain ⟨G, P, ds, r, hl, s, pu, rl, ev, k⟩ := h
  rw [hC] at ev
  unfold runFd at ev
  split at ev
  rotate_left
  · cases ev
  rename_i hds
  rw [← hN] at ev
  cases e : execs C f.body (startS N.length ds) P with
  | none => rw [e] at ev; cases ev
  | some o =>
    rw [e] at ev
    refine ⟨⟨H, G, if f.fix then vs else []⟩, G, _, P, o, ⟨start_ok s pu rl, Ext.refl s, fun i v hv => ?_⟩, ?_, e, ?_⟩
    · cases hf : f.fix with
      | true => rw [hf] at hv; exact start_get hv
      | false => rw [hf] at hv; simp at hv
    · cases hf : f.fix with
      | true => exact Nat.le_of_eq hl
      | false => exact Nat.le_refl _
    · cases o with
      | next ρ1 P1 =>
        cases ev
        exact fun σ' G' H' s' F => k .non G' H' F.ext F.st.pu (by unfold RRes Rep; rfl)
      | ret d m P1 =>
        cases ev
        exact k
      | exc c o d P1 =>
        cases ev
        refine fun v dd σ' G' H' x pu' rr hd hn ho => k v dd G' H' x pu' rr hd hn fun i hi => ?_
        cases hf : f.fix with
        | false => rw [hf] at hi; cases hi
        | true =>
          rw [hf] at hi ho
          cases o with
          | none => cases hi
          | some j =>
            have hi : (if j < f.np then some j else none) = some i := by simpa only [↓reduceIte] using hi
            split at hi
            · rename_i hj
              have hj : j < vs.length := by rw [hl]; exact hj
              have hij : j = i := Option.some.inj hi
              subst hij
              have := ho j rfl vs[j] (by simp [hj])
              rw [← this]
              simp [hj]
            · cases hi
/-- the def g of the text, one call deeper -/
theorem fn_b {P : Program} {w : World} {K : PySem.W.Frag} {mg : Str → Option Value} {base : Heap} {T : Tb} {k : Nat} {C C' : Calls} {g : Nat} {f : Fd} {x qual : Str} {st : Stmt} {fd : FuncData} {N ps : List Str} (F : Fun K x qual st (T.fad g) fd) (S : FnScope N ps (defScope st)) (hp : ps.length = f.np) (hN : N.length = f.ns)
    (hC : ∀ ds P, C' g ds P = runFd C f ds P)
    (hb : ∀ (cdv : Value) (A : Around) (outer : List Env) (s : Shared) (H : Hp) (E : XK), Room k (A.deeper (PyProof.Rows.envOfC qual (defScope st) s.heap.objs.size (T.fad g) cdv)) → A.guards = some [] →
      PSs (cxOf (L2.CX P w) P w K mg base N qual (defScope st) (T.fad g) cdv A outer s H E) (defBody st) (tSs T K (WE E) C (if f.fix then f.np else 0) f.body)) :
    FnG P w K mg base (L2.CX P w) (k + 1) (T.fad g) fd ps (spB T K C' g ps.length) := by
  refine fnG_of F S (fun vs H Q E h => ?_) (fun cdv A outer s H vs Q E hr hgd h => ⟨_, hb cdv A outer s H E hr hgd, ?_⟩)
  · obtain ⟨G, P, ds, r, hl, _⟩ := h
    exact hl
  · rw [hp] at h
    exact body_ok hC hN h
theorem passes_of_takes {X : Cx} {E0 : XK} (tk : Takes X (WE E0)) : Passes (L2.CX X.prog X.w) X E0 := passes_call tk fun _ _ _ _ h => h
theorem passes_blk {X : Cx} : Passes (L2.CX X.prog X.w) X (fun _ _ _ => False) := fun _ _ _ _ _ _ _ h => by
  obtain ⟨_, _, _, _, _, _, _, _, _, _, _, _, _, h⟩ := h
theorem cal_zero {P : Program} {w : World} {K : PySem.W.Frag} {mg : Str → Option Value} {base : Heap} {T : Tb} {tab : Nat → Option Fd} {g n : Nat} {x : Str} {fd : FuncData} {ps : List Str} (hn : ps.length = n) (gl : mg x = some (.ref (T.fad g))) (kp : PySem.W.keepIn K (.ref (T.fad g)) = true) (b : Binds K fd ps []) :
    CalB P w K mg base T 0 (calls tab 0) g x n :=
  ⟨⟨fd, ps, hn, ⟨fun vs H Q E h => by obtain ⟨_, _, _, _, hl, _⟩ := h; exact hl, fun A outer s H args us vs Q E _ _ _ _ _ h => by
    obtain ⟨_, _, _, _, _, _, _, _, h, _⟩ := h
    cases h⟩, b⟩, gl, kp⟩
theorem cal_succ {P : Program} {w : World} {K : PySem.W.Frag} {mg : Str → Option Value} {base : Heap} {T : Tb} {tab : Nat → Option Fd} {g n k : Nat} {x : Str} {fd : FuncData} {ps : List Str} (hn : ps.length = n) (gl : mg x = some (.ref (T.fad g))) (kp : PySem.W.keepIn K (.ref (T.fad g)) = true) (b : Binds K fd ps [])
    (F : FnG P w K mg base (L2.CX P w) (k + 1) (T.fad g) fd ps (spB T K (calls tab (k + 1)) g ps.length)) : CalB P w K mg base T (k + 1) (calls tab (k + 1)) g x n := ⟨⟨fd, ps, hn, F, b⟩, gl, kp⟩
/-! side conditions, looked up -/
def visB (sc : Scope) (x : Str) : Bool := match sc.names.lookup x with
  | some .local => true
  | some .cell => true
  | some .free => true
  | _ => false
theorem visC {sc : Scope} {x : Str} (h : visB sc x = true) : Vis sc x := by
  unfold visB at h
  unfold Vis
  split at h
  · exact .inl ‹_›
  · exact .inr (.inl ‹_›)
  · exact .inr (.inr ‹_›)
  · cases h
def locB (sc : Scope) (x : Str) : Bool := match sc.names.lookup x with
  | some .local => true
  | some .cell => true
  | _ => false
theorem locC {sc : Scope} {x : Str} (h : locB sc x = true) : L2.Loc sc x := by
  unfold locB at h
  unfold L2.Loc
  split at h
  · exact .inl ‹_›
  · exact .inr ‹_›
  · cases h
def fnB (X : Cx) (x : Str) : Bool := match X.env.scope.names.lookup x with
  | some .local => true
  | _ => X.fn x
theorem fnC {X : Cx} {x : Str} (h : fnB X x = true) : X.fn x = true ∨ X.env.scope.names.lookup x = some .local := by
  unfold fnB at h
  split at h
  · exact .inr ‹_›
  · exact .inl h
end B


/-! The purses: what the laws' first two defs make of the script (the script may be a list of the module's own: so by hand). -/
namespace B
open PySem PySem.Spec L2
def seedOf (ns : List Int) (i : Nat) : Int := ((ns.drop i).take 1).sum
def purseOf (ns : List Int) (i : Nat) : Pu := ⟨(if 0 > seedOf ns i - 10 ^ 18 then 0 else seedOf ns i - 10 ^ 18) % (10 ^ 60) ^ 8, seedOf ns i % 2147483629, 0, i⟩
def spPurse (K : PySem.W.Frag) : Sp := fun vs H Q _ => ∃ (a : Addr) (ns : List Int) (i : Nat), vs = [.ref a, .int i] ∧ SqL K H a (ns.map V.int) ∧ ∀ H' p, Same H H' → H p = none → H' p = some (.lst (puVs (purseOf ns i))) → Q (.ref p) H'
section
variable {X : Cx} {p1 p2 p3 p4 p5 p6 p7 p8 pos : Pos} {T : Tb} {C : Calls}
/-- seed = sum(script[at:at + 1]) -/
def tSeed (K : PySem.W.Frag) : TS := fun D σ H => ∃ (a : Addr) (ns : List Int) (i : Nat), σ[0]? = some (some (.ref a)) ∧ σ[1]? = some (some (.int i)) ∧ SqL K H a (ns.map V.int) ∧ ∀ H1, Same H H1 → D.nx (σ.set 2 (some (.int (seedOf ns i)))) H1
theorem cut_ints (ns : List Int) (i : Nat) : cutV (ns.map V.int) (some (i : Int)) (some ((i : Int) + 1)) = ((ns.drop i).take 1).map V.int := by
  have e : ((i : Int) + 1) = ((i + 1 : Nat) : Int) := by omega
  unfold cutV
  rw [e, HT.sIx_nat, HT.sIx_nat, List.length_map]
  by_cases h : i < ns.length
  · rw [Nat.min_eq_left (by omega), Nat.min_eq_left (by omega), ← List.map_drop, ← List.map_take]
    congr 2
    omega
  · rw [Nat.min_eq_right (by omega), Nat.min_eq_right (by omega), Nat.sub_self, List.take_zero, List.drop_eq_nil_of_le (by omega)]
    rfl
theorem s_seed {st : Stmt} (h : PS X st (tAsg (tCB (rSum X.K) (tCons (tSl (rSlL X.K) (tVar 0) (tPart (tVar 1)) (tPart (tOp (rI0 fun i j => .int (i + j)) (tVar 1) (tC (.int 1))))) tNil)) (gName 2))) : PS X st (tSeed X.K) := by
  refine PS.imp h fun D σ H ⟨a, ns, i, h0, h1, hS, k⟩ => ?_
  refine ⟨_, h0, _, h1, _, rfl, _, h1, i, 1, rfl, rfl, _, rfl, a, _, rfl, hS, fun p hp => ?_⟩
  refine ⟨p, (ns.drop i).take 1, rfl, SqL.of ?_, ?_⟩
  · rw [cut_ints]
    exact upd_same
  · exact k _ fun b o e => by rw [upd_ne (ne_of_none e hp)]; exact e
theorem bin_add {i j : Int} : binD .add (.int i) (.int j) = some (.int (i + j), .cold) := rfl
theorem bin_sub {i j : Int} : binD .sub (.int i) (.int j) = some (.int (i - j), .cold) := rfl
theorem bin_mod {i j : Int} (h : 0 < j) : binD .mod (.int i) (.int j) = some (.int (i % j), .cold) := by
  show (if decide (0 < j) then _ else _) = _
  rw [if_pos (decide_eq_true h)]
/-- the law's first def by its two statements -/
def ir_purse : Ss := .cons (.ret (.lst (.cons (.bin .mod (.bi .int (.bi2 .max (.bin .sub (.var 2) (.bin .pow (.cst (.int 10)) (.cst (.int 18)))) (.cst (.int 0)))) (.bin .pow (.bin .pow (.cst (.int 10)) (.cst (.int 60))) (.cst (.int 8)))) (.cons (.bin .mod (.bi .int (.var 2)) (.cst (.int 2147483629))) (.cons (.cst (.int 0)) (.cons (.var 1) .nil)))))) .nil
theorem purse_ev (s : Int) (i : Nat) : execs C ir_purse [.no, .cold (.int i), .cold (.int s)] none = some (.ret (.lst [.int ((if 0 > s - 10 ^ 18 then 0 else s - 10 ^ 18) % (10 ^ 60) ^ 8), .int (s % 2147483629), .int 0, .int i]) .fresh none) := by
  have p1 : binD .pow (.int 10) (.int 18) = some (.int (10 ^ 18), .cold) := by kernel_rfl
  have p2 : binD .pow (.int 10) (.int 60) = some (.int (10 ^ 60), .cold) := by kernel_rfl
  have p3 : binD .pow (.int (10 ^ 60)) (.int 8) = some (.int ((10 ^ 60) ^ 8), .cold) := by kernel_rfl
  have q : (0 : Int) < (10 ^ 60) ^ 8 := by decide +kernel
  simp only [ir_purse, execs, exec, evalE, evalEs, obnd, bndL, bnd, rget, rok, rco, List.getElem?_cons_zero, List.getElem?_cons_succ, p1, p2, p3, biM, biD, bi2D]
  simp only [bin_sub, bin_mod q, bin_mod (show (0 : Int) < 2147483629 by decide)]
  rfl
end
/-- an empty start: nothing told -/
theorem fr_none {T : Tb} {H : Hp} {σ : L2.St} {ρ : Sl} (hl : ρ.length = σ.length) (hc : ∀ (i : Nat) d, ρ[i]? = some (.cold d) → ∃ v, σ[i]? = some (some v) ∧ Rep T ⟨fun _ => none, none⟩ d v) (ho : ∀ (i : Nat) d, ρ[i]? ≠ some (.own d)) :
    Fr T ⟨H, ⟨fun _ => none, none⟩, []⟩ ⟨fun _ => none, none⟩ none H σ ρ := by
  have s : Same (fun _ => none : Hp) H := fun b o e => by cases e
  exact ⟨⟨s, PuOk.mk (fun a h => by cases h) fun _ => rfl, hl, hc, fun i d h => absurd h (ho i d), fun i j d e a h => absurd h (ho i d), fun b n => n⟩, Ext.refl s, fun i v h => by simp at h⟩
theorem pure_purse {K : PySem.W.Frag} {C : Calls} {E : XK} {T : Tb} (vs : List V) (H : Hp) (Q : VK) (h : spPurse K vs H Q E) :
    tSeq (tSeed K) (tSs T K (WE E) C 0 ir_purse) { nx := fun _ H' => Q .non H', rt := Q } (L2.start ["_law_script", "_law_at", "_law_seed"] vs) H := by
  obtain ⟨a, ns, i, rfl, hS, k⟩ := h
  refine ⟨a, ns, i, rfl, rfl, hS, fun H1 s1 => ?_⟩
  refine ⟨⟨H1, ⟨fun _ => none, none⟩, []⟩, ⟨fun _ => none, none⟩, [.no, .cold (.int i), .cold (.int (seedOf ns i))], none, _, fr_none rfl (fun j d hj => ?_) (fun j d hj => ?_), Nat.le_refl _, purse_ev _ _, fun v G' H' x pu rr => ?_⟩
  · match j, hj with
    | 1, hj => cases hj; exact ⟨_, rfl, by unfold Rep; rfl⟩
    | 2, hj => cases hj; exact ⟨_, rfl, by unfold Rep; rfl⟩
  · match j, hj with
    | 0, hj => cases hj
    | 1, hj => cases hj
    | 2, hj => cases hj
  · obtain ⟨p, e, _, _, n, ws, hp, rl⟩ := rr
    subst e
    have ew := intsD_rep (bs := [(if 0 > seedOf ns i - 10 ^ 18 then 0 else seedOf ns i - 10 ^ 18) % (10 ^ 60) ^ 8, seedOf ns i % 2147483629, 0, i]) rfl rl
    subst ew
    refine k H' p (fun b o e => x.keep b o (s1 b o e) (by intro z; cases z)) ?_ hp
    cases q : H p with
    | none => rfl
    | some o => exact absurd ((s1 p o q).symm.trans n) (by simp)
def purses (ns : List Int) (few : Int) : Nat := (if (if (ns.length : Int) < few then (ns.length : Int) else few) > 1 then (if (ns.length : Int) < few then (ns.length : Int) else few) else 1).toNat
def spPurses (K : PySem.W.Frag) : Sp := fun vs H Q _ => ∃ (a : Addr) (ns : List Int) (few : Int), vs = [.ref a, .int few] ∧ 0 ≤ few ∧ few ≤ 1000 ∧ SqL K H a (ns.map V.int) ∧ ∀ (H' : Hp) (L : Addr) (ps : List Addr), Same H H' → ps.length = purses ns few →
  (∀ i p, ps[i]? = some p → H' p = some (.lst (puVs (purseOf ns i))) ∧ H p = none ∧ p ≠ L) → ps.Nodup → H L = none → H' L = some (.lst (ps.map V.ref)) → Q (.ref L) H'
def rMx2 : List V → Hp → VK → Prop := fun xs H Q => ∃ i j, xs = [.int i, .int j] ∧ Q (.int (if j > i then j else i)) H
def rMn2 : List V → Hp → VK → Prop := fun xs H Q => ∃ i j, xs = [.int i, .int j] ∧ Q (.int (if j < i then j else i)) H
def t_purses (K : PySem.W.Frag) : TS := tRet (tLc (iRng1 (tCons (tCB rMx2 (tCons (tC (.int 1)) (tCons (tCB rMn2 (tCons (tVar 1) (tCons (tCB (rLen K) (tCons (tVar 0) tNil)) tNil))) tNil))) tNil)) (gName 2) tYes (tCall (spPurse K) [] (fun _ _ _ => False) (tCons (tVar 0) (tCons (tVar 2) tNil))) [2])
theorem pure_purses {K : PySem.W.Frag} {E : XK} (vs : List V) (H : Hp) (Q : VK) (h : spPurses K vs H Q E) : t_purses K { nx := fun _ H' => Q .non H', rt := Q } (L2.start ["_law_script", "_law_few", "_law_at"] vs) H := by
  obtain ⟨a, ns, few, rfl, f0, f1, hS, k⟩ := h
  have hlen : (ns.map V.int).length = ns.length := List.length_map ..
  have bnd : ∀ m : Int, m = (if (if (ns.length : Int) < few then (ns.length : Int) else few) > 1 then (if (ns.length : Int) < few then (ns.length : Int) else few) else 1) → -(2 ^ 62) ≤ m ∧ m < 2 ^ 62 := by
    intro m e
    split at e <;> split at e <;> omega
  refine ⟨_, rfl, _, rfl, .inl (.inl (.inl ⟨a, ns.map V.int, rfl, .inl hS, few, _, rfl, 1, _, rfl, _, rfl, (bnd _ (by rw [hlen])).1, (bnd _ (by rw [hlen])).2, fun A hA => ?_⟩))⟩
  rw [hlen]
  refine lc_range (fun i H' => ∃ ps : List Addr, ps.length = i ∧ H' A = some (.lst (ps.map V.ref)) ∧ Same H H' ∧ (∀ j p, ps[j]? = some p → H' p = some (.lst (puVs (purseOf ns j))) ∧ H p = none ∧ p ≠ A) ∧ ps.Nodup) ?_ ?_ ?_
  · exact ⟨[], rfl, upd_same, fun b o e => by rw [upd_ne (ne_of_none e hA)]; exact e, fun j p h => by simp at h, List.nodup_nil⟩
  · rintro i H' hi ⟨ps, hl, hAl, s1, hp, nd⟩
    refine ⟨rfl, ?_⟩
    simp only [tYes, if_true]
    refine ⟨_, rfl, _, rfl, a, ns, i, ?_, s1.seq hS, fun H'' p s2 hn hpp => ?_⟩
    · show [V.ref a, V.int (0 + (i : Int))] ++ [] = _
      rw [List.append_nil, Int.zero_add]
    · have nA : p ≠ A := fun z => by rw [z, hAl] at hn; cases hn
      refine ⟨ps.map V.ref, s2 _ _ hAl, ?_, ps ++ [p], by rw [List.length_append, hl]; rfl, ?_, ?_, ?_, ?_⟩
      · rw [List.length_map, hl, sizeLine_eq]
        split at hi <;> split at hi <;> omega
      · rw [upd_same, List.map_append]; rfl
      · intro b o e
        rw [upd_ne (ne_of_none e hA)]
        exact s2 _ _ (s1 _ _ e)
      · intro j q hj
        by_cases hjl : j < ps.length
        · rw [List.getElem?_append_left hjl] at hj
          obtain ⟨h1, h2, h3⟩ := hp j q hj
          exact ⟨by rw [upd_ne h3]; exact s2 _ _ h1, h2, h3⟩
        · rw [List.getElem?_append_right (by omega)] at hj
          have e0 : j = i := by
            by_cases z : j - ps.length = 0
            · omega
            · rw [List.getElem?_eq_none (by simp; omega)] at hj; cases hj
          subst e0
          rw [hl, Nat.sub_self] at hj
          cases hj
          refine ⟨by rw [upd_ne nA]; exact hpp, ?_, nA⟩
          cases q : H p with
          | none => rfl
          | some o => rw [s1 p o q] at hn; cases hn
      · rw [List.nodup_append]
        refine ⟨nd, by simp, fun x hx y hy => ?_⟩
        rw [List.mem_singleton] at hy
        subst hy
        intro z
        subst z
        obtain ⟨j, hj⟩ := List.getElem?_of_mem hx
        rw [(hp j x hj).1] at hn
        cases hn
  · rintro H' ⟨ps, hl, hAl, s1, hp, nd⟩
    exact k H' A ps s1 hl hp nd hA hAl
end B


/-! .. own errors as values. -/
namespace PySem
namespace VX
open PySem.W PySem.Calls PyProof.Rows PySem.HandSPX
section
variable {prog : Program} {K : Frag} {mg : Str → Option Value} {C fI x : Addr} {fd : FuncData} {v : Value} {s : Shared}
theorem fnAt_dfl (F : FnAt prog K C fI fd) (X : K.In s.heap) : ∃ (T : Addr) (o : Obj) (n : Nat), fd.defaults = .ref T ∧ s.heap.get? T = some o ∧ o.data = .seq #[.none] n := by
  obtain ⟨oc, od, osl, q, p1, p2, p3, q1, q2, q3, q4, q5, q6, q7, q8, q9, dV, kV, doc, pm, an, cda, ct, cc, rfl, ho, hcd, _, _, hd, _⟩ := F.ex
  rcases hd with ⟨e, _⟩ | ⟨_, T, o, its, m, rfl, lT, oT, rT⟩
  · cases e
  · cases rT with
    | cons r rr =>
      cases rr
      cases (show _ = Value.none from r)
      exact ⟨T, o, m, rfl, X _ _ lT, oT⟩
theorem bind_pos (F : FnAt prog K C fI fd) (X : K.In s.heap) : BindsTo s fd ⟨[.ref x, v], []⟩ [("self", .ref x), ("value", v)] := by
  obtain ⟨T, o, n, h1, h2, h3⟩ := fnAt_dfl F X
  obtain ⟨oc, od, osl, q, p1, p2, p3, q1, q2, q3, q4, q5, q6, q7, q8, q9, dV, kV, doc, pm, an, cda, ct, cc, rfl, ho, hcd, _, _, hd, _⟩ := F.ex
  exact .of_defaults h1 h2 h3 (by with_unfolding_all rfl) (by with_unfolding_all rfl)
theorem bind_none (F : FnAt prog K C fI fd) (X : K.In s.heap) : BindsTo s fd ⟨[.ref x], []⟩ [("self", .ref x), ("value", .none)] := by
  obtain ⟨T, o, n, h1, h2, h3⟩ := fnAt_dfl F X
  obtain ⟨oc, od, osl, q, p1, p2, p3, q1, q2, q3, q4, q5, q6, q7, q8, q9, dV, kV, doc, pm, an, cda, ct, cc, rfl, ho, hcd, _, _, hd, _⟩ := F.ex
  exact .of_defaults h1 h2 h3 (by with_unfolding_all rfl) (by with_unfolding_all rfl)
theorem bind_kw (F : FnAt prog K C fI fd) (X : K.In s.heap) : BindsTo s fd ⟨[.ref x], [("value", v)]⟩ [("self", .ref x), ("value", v)] := by
  obtain ⟨T, o, n, h1, h2, h3⟩ := fnAt_dfl F X
  obtain ⟨oc, od, osl, q, p1, p2, p3, q1, q2, q3, q4, q5, q6, q7, q8, q9, dV, kV, doc, pm, an, cda, ct, cc, rfl, ho, hcd, _, _, hd, _⟩ := F.ex
  exact .of_defaults h1 h2 h3 (by with_unfolding_all rfl) (by with_unfolding_all rfl)
end
end VX
end PySem
namespace B
open PySem PySem.Spec L2
/-- what is told of an own class of errors -/
structure ErrC (P : Program) (K : PySem.W.Frag) (mg : Str → Option Value) (C : Addr) : Prop where
  ex : ∃ fI fd, VX.VTxt P K mg C fI fd
  kp : PySem.W.keepIn K (.ref C) = true
  ec : ExcC K C
/-- the table's classes of errors, by number -/
structure ErrT (P : Program) (w : World) (K : PySem.W.Frag) (mg : Str → Option Value) (T : Tb) (nms : List Str) : Prop where
  n : T.ne = nms.length
  c : ∀ i, i < T.ne → ErrC P K mg (T.ecl i)
  g : ∀ (i : Nat) x, nms[i]? = some x → mg x = some (.ref (T.ecl i))
section
variable {X : Cx} {pins : List (Addr × Obj)} {σ : St} {H1 : Hp} {C : Addr}
theorem relO_value {v : V} {v' : Value} (r : RelV v v') (f : Str) : RelO (List.lookup f [(("value" : Str), v)]) (if f = "value" then some v' else none) := by
  have q := relO_put (f := "value") (fs := []) (mA := fun _ => none) r (fun g => trivial) f
  exact q
theorem made_inv {hp h' : Heap} {g : Array GenState} {dr : Drawn} {tk tk' : Nat} {os : OsState} {e d : Addr} {v : V} {v' : Value} (I : Inv X pins σ H1 ⟨hp, g, dr, tk, os⟩) (M : VX.Made hp h' e C d v') (rv : RelV v v') :
    Inv X pins σ (upd (upd H1 d (exd d [("value", v)])) e (exo e C (some d))) ⟨h', g, dr, tk', os⟩ := by
  obtain ⟨G', g1, g2⟩ := restrict h' fun b => decide (b ≠ e)
  have gk : ∀ b, b ≠ e → G'.get? b = h'.get? b := fun b hb => g1 b (decide_eq_true hb)
  have ge : G'.get? e = none := g2 e (by simp)
  have old : ∀ b o, hp.get? b = some o → G'.get? b = some o := fun b o z => by
    rw [gk b (fun y => by rw [y] at z; exact absurd (Heap.lt_size z) (Nat.not_lt.mpr M.new))]
    exact M.keep b o z
  have ob : ObjOk X.prog X.w (upd H1 d (exd d [("value", v)])) G' d (exd d [("value", v)]) := exd_ok (M.ns.at fun o z => (gk d M.dne).trans z) (relO_value rv)
  have J : Inv X pins σ (upd H1 d (exd d [("value", v)])) ⟨G', g, dr, tk', os⟩ := I.laid (t' := tk') old M.dbig ob
  have hn : upd H1 d (exd d [("value", v)]) e = none := by
    rw [upd_ne (Ne.symm M.dne)]
    exact I.hok.fresh M.new
  obtain ⟨t1, ho⟩ := M.obj
  exact J.laidN (t' := tk') (h' := h') (fun b o z => by
    by_cases hb : b = e
    · rw [hb, ge] at z; cases z
    · exact (gk b hb).symm.trans z) ge hn (exo_ok ho)
/-- what is behind C(v) -/
def tMkV (C : Addr) (ta : TE) : TE := fun σ H Q => ta σ H fun v0 H1 => ∃ v, [v0] = [v] ∧ ∀ e d, H1 e = none → H1 d = none → d ≠ e → Q (.ref e) (upd (upd H1 d (exd d [("value", v)])) e (exo e C (some d)))
variable {x : Str} {p pos kpos : Pos} {k : Nat} {a : Expr} {ta : TE}
theorem run_mkv (E : ErrC X.prog X.K X.mg C) (hr : Room k X.A) {s : Shared} {Q : VK} {rest : List Value} {kw : List (Str × Value)} {v : V} {v' : Value} (I : Inv X pins σ H1 s) (rv : RelV v v') (hrest : rest.length ≤ sizeLine)
    (hb : ∀ fI fd, VX.VTxt X.prog X.K X.mg C fI fd → ∀ (x : Addr) (s' : Shared), X.K.In s'.heap → BindsTo s' fd ⟨.ref x :: rest, kw⟩ [("self", .ref x), ("value", v')])
    (q : ∀ e d, H1 e = none → H1 d = none → d ≠ e → Q (.ref e) (upd (upd H1 d (exd d [("value", v)])) e (exo e C (some d)))) : wpAny (model X.prog X.w) X.A (call (.ref C) rest kw) (EP X pins σ Q) X.xe s := by
  obtain ⟨fI, fd, T⟩ := E.ex
  have glob := I.mod.glob.keeps I.bk
  have blt : ∃ mb, s.heap.Ns builtinsNs mb ∧ ∀ y : Str, y ≠ "__name__" → mb y = bootBuiltins y := by
    obtain ⟨mb, h1, h2⟩ := I.mod.blt
    exact ⟨mb, h1.keeps I.bk, h2⟩
  have nol := I.nolimit
  have hroom : X.A.depth + 1 < recursionLimit := by have := hr.dp; omega
  obtain ⟨hp, g, dr, tk, os⟩ := s
  refine wpAny_call (VX.vmade T I.kIn glob blt nol hroom hrest (hb fI fd T) fun h' tk' e d M => ?_)
  exact ⟨.ref e, _, made_inv I M rv, rfl, q e d (I.hok.fresh M.new) (I.hok.fresh M.dbig) M.dne⟩
theorem pe_mkv (E : ErrC X.prog X.K X.mg C) (hr : Room k X.A) (hm : X.mg x = some (.ref C)) (hg : Gl X x) (ha : PE X a ta) (hs : starEach [a] X.env = [(false, eval a X.env)]) (hdb : (x == ("__debug__" : Str)) = false) : PE X (.Call (.Name x p) [a] [] pos) (tMkV C ta) := by
  refine ⟨fun pins s σ H Q I h => ?_⟩
  refine wpAny_Call_Name_kw (ld_glob I hg hm ?_ hdb)
  refine PySem.W.callWith_K (h₀ := X.base) I.ok.mod.kin E.kp (thn ((pa_cons ha pa_nil hs).run pos pins s σ H (fun vs H1 => ∃ v, vs = [v] ∧ ∀ e d, H1 e = none → H1 d = none → d ≠ e → Q (.ref e) (upd (upd H1 d (exd d [("value", v)])) e (exo e C (some d)))) I h) fun us s1 ⟨vs, H1, I1, r, v, ev, q⟩ => ⟨I1.kIn, ?_⟩) hs rfl
  subst ev
  cases r with
  | cons rv rr =>
    cases rr
    exact run_mkv E hr I1 rv (by rw [sizeLine_eq]; exact (by decide : 1 ≤ 16777216)) (fun _ _ T x s' X' => VX.bind_pos T.fn X') q
theorem pe_mkv0 (E : ErrC X.prog X.K X.mg C) (hr : Room k X.A) (hm : X.mg x = some (.ref C)) (hg : Gl X x) (hdb : (x == ("__debug__" : Str)) = false) : PE X (.Call (.Name x p) [] [] pos) (tMkV C fun _ H Q => Q .non H) := by
  have one : ∀ {v : V} {q : V → Prop}, (∃ w, [v] = [w] ∧ q w) → q v := fun ⟨w, e, q⟩ => by cases e; exact q
  refine ⟨fun pins s σ H Q I h => ?_⟩
  refine wpAny_Call_Name_kw (ld_glob I hg hm ?_ hdb)
  refine PySem.W.callWith_K0 I.kIn E.kp ?_
  exact run_mkv E hr I (v := .non) (v' := .none) rfl (Nat.zero_le _) (fun _ _ T x s' X' => VX.bind_none T.fn X') (one h)
theorem pe_mkvK (E : ErrC X.prog X.K X.mg C) (hr : Room k X.A) (hm : X.mg x = some (.ref C)) (hg : Gl X x) (ha : PE X a ta) (hdb : (x == ("__debug__" : Str)) = false)
    (hall : (backToKw pos (keywordEach [⟨some "value", a, kpos⟩] X.env)).all (·.1.isSome) = true) (hks : (backToKw pos (keywordEach [⟨some "value", a, kpos⟩] X.env)).filterMap (·.1) = [("value" : Str)])
    (hpl : ((backTo pos (starEach [] X.env)).any (·.1) || (backToKw pos (keywordEach [⟨some "value", a, kpos⟩] X.env)).any (·.1.isNone)) = false) : PE X (.Call (.Name x p) [] [⟨some "value", a, kpos⟩] pos) (tMkV C ta) := by
  refine ⟨fun pins s σ H Q I h => ?_⟩
  refine wpAny_Call_Name_kw (ld_glob I hg hm ?_ hdb)
  refine PySem.W.callWith_KW0 (h₀ := X.base) I.ok.mod.kin E.kp hall ?_ hpl
  refine thn ((pk_cons (kpos := kpos) (nm := some "value") ha pk_nil).run pos pins s σ H (fun vs H1 => ∃ v, vs = [v] ∧ ∀ e d, H1 e = none → H1 d = none → d ≠ e → Q (.ref e) (upd (upd H1 d (exd d [("value", v)])) e (exo e C (some d)))) I h) fun us s1 ⟨vs, H1, I1, r, v, ev, q⟩ => ⟨I1.kIn, ?_⟩
  subst ev
  rw [hks]
  cases r with
  | cons rv rr =>
    cases rr
    exact run_mkv E hr I1 rv (Nat.zero_le _) (fun _ _ T x s' X' => VX.bind_kw T.fn X') q
end
section
variable {T : Tb} {X : Cx} {K : PySem.W.Frag} {W : WX} {C : Calls} {Hen : Hp} {G G1 : Gh} {P P1 : Option Pu} {H H0 H1 : Hp} {σ : St} {ρ : Sl} {Q Q' : VK} {r : R} {nms : List Str} {x : Str} {p pos kpos : Pos} {k c : Nat} {a : Expr} {ea : E}
/-- a made error is told at once -/
theorem made_rep {d : D} {v : V} (hc : c < T.ne) (S : StOk T Hen G P H σ ρ) (rep : Rep T G d v) {e dx : Addr} (ne : H e = none) (nd : H dx = none) (hde : dx ≠ e) :
    ∃ G', Ext G H G' (upd (upd H dx (exd dx [("value", v)])) e (exo e (T.ecl c) (some dx))) ∧ PuOk G' P (upd (upd H dx (exd dx [("value", v)])) e (exo e (T.ecl c) (some dx))) ∧ Rep T G' (.err c d) (.ref e) := by
  obtain ⟨x1, pu1, s1⟩ := ext_newC (o := exd dx [("value", v)]) S nd
  have S1 := S.ext x1 pu1
  have ne1 : upd H dx (exd dx [("value", v)]) e = none := by rw [upd_ne (Ne.symm hde)]; exact ne
  obtain ⟨x2, pu2, s2⟩ := ext_newC (o := exo e (T.ecl c) (some dx)) S1 ne1
  refine ⟨_, x1.trans pu1 x2, pu2, ?_⟩
  unfold Rep
  refine ⟨e, dx, v, rfl, hc, upd_same, ?_, Rep.mono (G' := ⟨upd (upd G.Hf dx (exd dx [("value", v)])) e (exo e (T.ecl c) (some dx)), G.p⟩) (s1.trans s2) rfl d rep⟩
  show upd (upd G.Hf dx (exd dx [("value", v)])) e (exo e (T.ecl c) (some dx)) dx = _
  rw [upd_ne hde, upd_same]
theorem mke_imp (hc : c < T.ne) : ∀ σ H Q, tE T K W C (.mke c ea) σ H Q → tMkV (T.ecl c) (tE T K W C ea) σ H Q := by
  intro σ H Q ⟨Hen, G, ρ, P, r, S, ev, k⟩
  unfold evalE at ev
  cases e1 : evalE C ea ρ P with
  | none => rw [e1] at ev; cases ev
  | some ra =>
    rw [e1] at ev
    refine ⟨Hen, G, ρ, P, ra, S, e1, ?_⟩
    cases ra with
    | exc c o d P' => cases ev; exact k
    | ok d m P' =>
      intro v G1 H1 x pu rr
      have hm : m ≠ .bor := fun z => by subst z; cases ev
      have ev : some (R.ok (.err c d) .cold P') = some r := by
        cases m with
        | bor => exact absurd rfl hm
        | cold => exact ev
        | fresh => exact ev
      cases ev
      obtain ⟨G2, ep, s1, s2, s3, pu2, rep⟩ := rr.freeze x.sub hm pu fun _ _ => trivial
      have x2 : Ext G H G2 H1 := ⟨x.hf.trans s1, ep.trans x.p, s2, fun b o q => (s3 b o q).elim (x.new b o) .inr, x.keep⟩
      refine ⟨v, rfl, fun e dx ne nd hde => ?_⟩
      obtain ⟨G', x3, pu3, rep3⟩ := made_rep hc (S.ext x2 pu2) rep ne nd hde
      exact k _ G' _ (x2.trans pu2 x3) pu3 rep3
theorem s_mke (et : ErrT X.prog X.w X.K X.mg T nms) (hr : Room k X.A) (hn : nms[c]? = some x) (hg : Gl X x) (ha : PE X a (tE T X.K W C ea)) (hs : starEach [a] X.env = [(false, eval a X.env)]) (hdb : (x == ("__debug__" : Str)) = false) : PE X (.Call (.Name x p) [a] [] pos) (tE T X.K W C (.mke c ea)) :=
  have hc : c < T.ne := by rw [et.n]; exact (List.getElem?_eq_some_iff.mp hn).1
  PE.imp (pe_mkv (et.c c hc) hr (et.g c x hn) hg ha hs hdb) (mke_imp hc)
theorem s_mkk (et : ErrT X.prog X.w X.K X.mg T nms) (hr : Room k X.A) (hn : nms[c]? = some x) (hg : Gl X x) (ha : PE X a (tE T X.K W C ea)) (hdb : (x == ("__debug__" : Str)) = false)
    (hall : (backToKw pos (keywordEach [⟨some "value", a, kpos⟩] X.env)).all (·.1.isSome) = true) (hks : (backToKw pos (keywordEach [⟨some "value", a, kpos⟩] X.env)).filterMap (·.1) = [("value" : Str)])
    (hpl : ((backTo pos (starEach [] X.env)).any (·.1) || (backToKw pos (keywordEach [⟨some "value", a, kpos⟩] X.env)).any (·.1.isNone)) = false) : PE X (.Call (.Name x p) [] [⟨some "value", a, kpos⟩] pos) (tE T X.K W C (.mke c ea)) :=
  have hc : c < T.ne := by rw [et.n]; exact (List.getElem?_eq_some_iff.mp hn).1
  PE.imp (pe_mkvK (et.c c hc) hr (et.g c x hn) hg ha hdb hall hks hpl) (mke_imp hc)
theorem s_mk0 (et : ErrT X.prog X.w X.K X.mg T nms) (hr : Room k X.A) (hn : nms[c]? = some x) (hg : Gl X x) (hdb : (x == ("__debug__" : Str)) = false) : PE X (.Call (.Name x p) [] [] pos) (tE T X.K W C (.mke c (.cst .non))) :=
  have hc : c < T.ne := by rw [et.n]; exact (List.getElem?_eq_some_iff.mp hn).1
  PE.imp (pe_mkv0 (et.c c hc) hr (et.g c x hn) hg hdb) fun σ H Q ⟨Hen, G, ρ, P, r, S, ev, k⟩ => by
    unfold evalE evalE at ev
    cases ev
    refine ⟨.non, rfl, fun e dx ne nd hde => ?_⟩
    obtain ⟨G', x3, pu3, rep3⟩ := made_rep (d := .non) hc S (by unfold Rep; rfl) ne nd hde
    exact k _ G' _ x3 pu3 rep3
/-- e.value -/
def rVal (K : PySem.W.Frag) : V → Hp → VK → Prop := fun v H Q => ∃ e C dx w, v = .ref e ∧ ExcC K C ∧ PySem.W.findIn K (.ref C) "value" = some none ∧ H e = some (exo e C (some dx)) ∧ H dx = some (exd dx [("value", w)]) ∧ Q w H
theorem pe_vlu {te : TE} (ha : PE X a te) (hb : attributeBase a "value" X.env (eval a X.env) = eval a X.env) : PE X (.Attribute a "value" pos) (fun σ H Q => te σ H fun v H1 => rVal X.K v H1 Q) := by
  refine ⟨fun pins s σ H Q I h => ?_⟩
  refine attr_of hb (thn (ha.run pins s σ H _ I h) fun u s1 hh => ?_)
  obtain ⟨v, H1, I1, rx, e, C, dx, w, ev, E, hno, he, hd, q⟩ := hh
  subst ev
  obtain rfl : u = Value.ref e := rx
  obtain ⟨t1, ho⟩ := exo_at I1.hok he
  obtain ⟨mA, hns, hr⟩ := exd_at I1.hok hd
  obtain ⟨od, hod, hl⟩ := lookIn_ns hns
  have l : List.lookup ("value" : Str) [(("value" : Str), w)] = some w := by simp [List.lookup]
  obtain ⟨u, hu, ru⟩ := RelO.some_of (v := w) (o := mA "value") (by rw [← l]; exact hr "value")
  have J : PySem.W.InstAt s1.heap e _ C (some od) := ⟨ho, rfl, rfl, hod⟩
  exact HandSPX.exc_get I1.kIn J E.hg E.hk E.hs (PySem.W.findObj_own E.hd hno rfl (by rw [hl, hu])) (handed_of ru) ⟨w, H1, I1.tok _, ru, q⟩
theorem s_vlu (et : ErrT X.prog X.w X.K X.mg T nms) (ha : PE X a (tE T X.K W C ea)) (hb : attributeBase a "value" X.env (eval a X.env) = eval a X.env) : PE X (.Attribute a "value" pos) (tE T X.K W C (.vlu ea)) := by
  refine PE.imp (pe_vlu ha hb) fun σ H Q ⟨Hen, G, ρ, P, r, S, ev, k⟩ => ?_
  unfold evalE at ev
  refine thenE S ev k fun d m P1 v G1 H1 S1 rr x1 ev1 k1 => ?_
  cases d with
  | err c d =>
    cases ev1
    have rep : Rep T G1 (.err c d) v := by
      cases m with
      | cold => exact rr
      | fresh => obtain ⟨_, _, _, _, _, t⟩ := rr; exact t.elim
      | bor => obtain ⟨_, _, ⟨_, t⟩ | ⟨_, _, z, _⟩⟩ := rr; exact t.elim; cases z
    unfold Rep at rep
    obtain ⟨e, dx, w, ev, hc, he, hd, rw'⟩ := rep
    obtain ⟨fI, fd, Tx⟩ := (et.c c hc).ex
    exact ⟨e, T.ecl c, dx, w, ev, (et.c c hc).ec, Tx.noN, S1.sub _ _ he, S1.sub _ _ hd, k1.scal S1 rw'⟩
  | _ => cases ev1
end
end B


/-! .. isinstance of an own error that has its own dict (HandS.ExcIs tells it of errors without one; the way is the same). -/
namespace PySem
namespace VX
open PySem.W PySem.Calls PyProof.Rows PySem.HandSPX
section
variable {prog : Program} {w : World} {A : Around} {E : Value → Shared → Prop} {s : Shared} {K : Frag} {x D : Addr} {ox : Obj} {od : Option Obj}
theorem find_class (hdct : hasDictIn K D = true) (ha : findIn K (.ref D) "__class__" = some (some (.builtin "object.__class__"))) (hn : specialIn K (.builtin "object.__class__") "__get__" = some (some (.builtin "getset_descriptor.__get__"))) (htk : takesIn K (.builtin "object.__class__") = some true) :
    findObj K D od "__class__" = some (.bind (.builtin "getset_descriptor.__get__") (.builtin "object.__class__")) := by
  obtain ⟨cd, hc, _⟩ := any_some hdct
  unfold findObj
  rw [hc, Option.bind_some, ha, Option.bind_some]
  cases od <;> simp [hn, htk]
theorem class_of {Q : Option Value → Shared → Prop} (E' : L2.ExcC K D) (X : K.In s.heap) (I : InstAt s.heap x ox D od) (h : Q (some (.ref D)) { s with toks := s.toks + 1 }) : wpAny (model prog w) A (getAttr? (.ref x) "__class__") Q E s := by
  have hf := find_class (od := od) E'.hd E'.ha E'.hn E'.ht
  have ne : (Value.builtin "BaseException.__getattribute__" == Value.builtin "object.__getattribute__") = false := by decide +kernel
  obtain ⟨hp, g, d, t, os⟩ := s
  have tx := I.type (M := model prog w)
  have own := looks_findIn (M := model prog w) X E'.hg
  have hook := looks_findIn (M := model prog w) X E'.hk
  have fnd := looks_find (M := model prog w) X I hf
  have isE : Looks (model prog w) hp (isInstance (.ref x) (.type "BaseException")) true := tx.andThen (looks_subIn X E'.hs)
  unfold getAttr? getAttrBy? getAttrBy
  refine wpAny_bind (wpAny_mkText (wpAny_bind (wpAny_attempt (wpAny_holding (wpAny_bind (tx.at (wpAny_bind (own.at ?_))))))))
  show wpAny _ _ (if (onTheHeap (Value.ref D) && Value.builtin "BaseException.__getattribute__" == Value.builtin "object.__getattribute__") = true then _ else _) _ _ _
  rw [ne, Bool.and_false, if_neg Bool.false_ne_true]
  unfold getAttrByItsOwn hookBefore
  refine wpAny_bind ?_
  rw [if_pos (by rfl : onTheHeap (Value.ref D) = true)]
  refine hook.at (wpAny_bind (wpAny_attempt (wpAny_holding ?_)))
  unfold callGetattribute
  rw [if_neg (by decide)]
  unfold boundAndCalled
  rw [PySem.F.excAttr_ValueError.ga.bind (.ref x)]
  refine wpAny_bind (wpAny_pure ?_)
  show wpAny _ _ (call (.builtin "BaseException.__getattribute__") [.ref x, .str "__class__" t]) _ _ _
  refine wpAny_call (codeAny_call_builtin PySem.F.excAttr_ValueError.ga.plain PySem.F.entry_bexc_ga ?_)
  refine @check_slot (model prog w) _ _ ⟨hp, g, d, t + 1, os⟩ "BaseException.__getattribute__" "BaseException" "__getattribute__" (.ref x) [.str "__class__" t] [] _ (by decide +kernel) (by decide +kernel) isE (PySem.F.args_bexc_ga (.ref x) (.str "__class__" t)) ?_
  unfold Builtin.«object.__getattribute__»
  refine wpAny_bind (wpAny_of_eq (a := ((Value.ref x : Value), [Value.str "__class__" t])) (by first | rfl | (simp only [slotArgs]; rfl)) ?_)
  refine wpAny_bind (wpAny_pure (wpAny_bind (tx.at (wpAny_bind (fnd.at ?_)))))
  show wpAny _ _ (holding [Value.builtin "object.__class__"] (call (.builtin "getset_descriptor.__get__") [.builtin "object.__class__", .ref x, .ref D]) >>= ret) _ _ _
  refine wpAny_bind (wpAny_holding (wpAny_call (class_get (s := ⟨hp, g, d, t + 1, os⟩) (ox := ox) (od := od) X I E'.hm ?_)))
  refine wpAny_pure ?_
  show wpAny _ _ (handedOut (.ref D)) _ _ _
  rw [handedOut_of (v := .ref D) rfl]
  first
    | exact wpAny_pure (wpAny_pure h)
    | exact wpAny_pure h
    | exact wpAny_pure (wpAny_bind (wpAny_pure (wpAny_pure h)))
theorem kitx_err (E' : L2.ExcC K D) : KitX K (.ref x) (.ref D) (fun h => ∃ ox od, InstAt h x ox D od) where
  ty := fun _ _ _ ⟨_, _, I⟩ => I.type
  it := fun _ _ X _ => by
    obtain ⟨cd, hc, _⟩ := any_some E'.hd
    unfold clsIn at hc
    split at hc
    · rename_i ho
      intro A' Q' E' s' k q
      unfold isType loadHead
      exact wpAny_bind (wpAny_loadPart (k _ _ (X _ _ ho)) (wpAny_pure q))
    · cases hc
  ne := fun h tp dd its n sl X htp => by
    obtain ⟨cd, hc, _⟩ := any_some E'.hd
    cases q : (Value.ref D == Value.ref tp) with
    | false => rfl
    | true =>
      have e : D = tp := Value.ref.inj (beq_iff_eq.mp q)
      subst e
      unfold clsIn at hc
      split at hc
      · rename_i ho
        have z := (X _ _ ho).symm.trans htp
        cases z
      · cases hc
  ca := fun X ⟨_, _, I⟩ k => class_of E' X I k
end
end VX
end PySem
namespace B
open PySem PySem.Spec L2
/-- isinstance(e, c), e an own error -/
def rIsx (K : PySem.W.Frag) : List V → Hp → VK → Prop := fun xs H Q => ∃ (e C : Addr) (d : Option Addr) (c : V) (u : Value) (b : Bool), xs = [.ref e, c] ∧ ClsV c u ∧ ExcC K C ∧ H e = some (exo e C d) ∧ (∀ dx, d = some dx → ∃ fs, H dx = some (exd dx fs)) ∧ PySem.W.kitOne K (.ref C) u = some b ∧ Q (.bl b) H
theorem call_isx {X : Cx} : CallR X (.builtin "isinstance") (rIsx X.K) := by
  intro pins s σ H xs us Q I r h
  obtain ⟨e, C, d, c, u, b, rfl, k, E, he, hd, kb, q⟩ := h
  obtain ⟨u1, u2, rfl, r1, r2⟩ := vals2 r
  have e2 := k.eq r2
  subst e2
  cases (show u1 = Value.ref e from r1)
  obtain ⟨t1, ho⟩ := exo_at I.hok he
  have J : ∃ ox od, PySem.W.InstAt s.heap e ox C od := by
    cases d with
    | none => exact ⟨_, none, ho, rfl, rfl, trivial⟩
    | some dx =>
      obtain ⟨fs, hx⟩ := hd dx rfl
      obtain ⟨mA, hns, hr⟩ := exd_at I.hok hx
      obtain ⟨od, hod, hl⟩ := lookIn_ns hns
      exact ⟨_, some od, ho, rfl, rfl, hod⟩
  exact PySem.W.kia_one (VX.kitx_err E) I.kIn J kb (fun z => nomatch z) fun tk => ⟨.bl b, H, I.tok tk, rfl, q⟩
/-- what an own class without an __init__ says -/
structure ErrZ (K : PySem.W.Frag) (C : Addr) : Prop where
  iC : PySem.W.findIn K (.ref C) "__init__" = some (some (.builtin "ValueError.__init__"))
  q : PySem.W.excInitIn K C PySem.HandSPX.veTail "ValueError.__new__" = true
  kp : PySem.W.keepIn K (.ref C) = true
  ec : ExcC K C
structure ErrZT (K : PySem.W.Frag) (mg : Str → Option Value) (T : Tb) (nms : List Str) : Prop where
  n : T.nz = nms.length
  c : ∀ i, i < T.nz → ErrZ K (T.zcl i)
  g : ∀ (i : Nat) x, nms[i]? = some x → mg x = some (.ref (T.zcl i))
/-- isinstance(e, y), by numbers -/
structure IsC (K : PySem.W.Frag) (mg : Str → Option Value) (T : Tb) (y : Str) (cs zs : List Nat) : Prop where
  ex : ∃ u : Value, ((∃ C, u = .ref C ∧ mg y = some (.ref C)) ∨ ∃ n, u = .type n ∧ mg y = none ∧ bootBuiltins y = some (.type n) ∧ y ≠ "__name__") ∧
    (∀ i, i < T.ne → PySem.W.kitOne K (.ref (T.ecl i)) u = some (cs.contains i)) ∧ ∀ i, i < T.nz → PySem.W.kitOne K (.ref (T.zcl i)) u = some (zs.contains i)
/-- the classes that are asked for, by place -/
structure IscT (K : PySem.W.Frag) (mg : Str → Option Value) (T : Tb) (l : List (Str × List Nat × List Nat)) : Prop where
  get : ∀ (j : Nat) {y : Str} {cs zs : List Nat}, l[j]? = some (y, cs, zs) → IsC K mg T y cs zs
section
variable {T : Tb} {X : Cx} {K : PySem.W.Frag} {W : WX} {C : Calls} {Hen : Hp} {G G1 : Gh} {P P1 : Option Pu} {H H0 H1 : Hp} {σ : St} {ρ : Sl} {Q Q' : VK} {r : R} {nms : List Str} {x y : Str} {p p2 pos kpos : Pos} {k c : Nat} {a : Expr} {ea : E} {cs zs : List Nat}
theorem pe_cname (h : IsC X.K X.mg T y cs zs) (hg : Gl X y) (hdb : (y == ("__debug__" : Str)) = false) : ∃ (c : V) (u : Value), ClsV c u ∧ PE X (.Name y p2) (tC c) ∧
    (∀ i, i < T.ne → PySem.W.kitOne X.K (.ref (T.ecl i)) u = some (cs.contains i)) ∧ ∀ i, i < T.nz → PySem.W.kitOne X.K (.ref (T.zcl i)) u = some (zs.contains i) := by
  obtain ⟨u, h1, h2, h3⟩ := h.ex
  rcases h1 with ⟨C, rfl, hm⟩ | ⟨n, rfl, hm, hv, hn⟩
  · exact ⟨.ref C, _, .own C, pe_glob hg hm rfl hdb, h2, h3⟩
  · exact ⟨.ty n, _, .ty n, ⟨fun pins s σ H Q I h => ld_blt I hg hm hv ⟨.ty n, H, I, rfl, h⟩ (hn := hn) (hd := hdb)⟩, h2, h3⟩
theorem s_isx (h : IsC X.K X.mg T y cs zs) (et : ErrT X.prog X.w X.K X.mg T nms) {nms' : List Str} (ez : ErrZT X.K X.mg T nms') (hg : Gl X "isinstance") (hm : X.mg "isinstance" = none) (hgy : Gl X y) (ha : PE X a (tE T X.K W C ea)) (hs : starEach [a, .Name y p2] X.env = [(false, eval a X.env), (false, eval (.Name y p2) X.env)])
    (hs2 : starEach [.Name y p2] X.env = [(false, eval (.Name y p2) X.env)]) (hdb : (y == ("__debug__" : Str)) = false) : PE X (.Call (.Name "isinstance" p) [a, .Name y p2] [] pos) (tE T X.K W C (.isi ea (.exc cs zs))) := by
  obtain ⟨cv, u, kc, pn, h2, h3⟩ := pe_cname (p2 := p2) h hgy hdb
  refine PE.imp (pe_callB call_isx hg hm (by decide +kernel) (pa_cons ha (pa_cons pn pa_nil hs2) (by rw [hs, hs2])) (he := by rw [hs, hs2]) (hpl := by rw [hs2]; rfl)) fun σ H Q ⟨Hen, G, ρ, P, r, S, ev, k⟩ => ?_
  unfold evalE at ev
  refine thenE S ev k fun d m P1 v G1 H1 S1 rr x1 ev1 k1 => ?_
  have cold : ∀ {d : D}, (∃ c z, d = .err c z) ∨ (∃ c, d = .er0 c) → RRes T X.K H G1 H1 d v m → Rep T G1 d v := fun {d} hd rr => by
    cases m with
    | cold => exact rr
    | fresh => obtain ⟨_, _, _, _, _, t⟩ := rr; rcases hd with ⟨_, _, rfl⟩ | ⟨_, rfl⟩ <;> exact t.elim
    | bor => obtain ⟨_, _, ⟨_, t⟩ | ⟨_, _, z, _⟩⟩ := rr <;> rcases hd with ⟨_, _, rfl⟩ | ⟨_, rfl⟩ <;> first | exact t.elim | cases z
  cases d with
  | err c d =>
    cases ev1
    have rep := cold (.inl ⟨c, d, rfl⟩) rr
    unfold Rep at rep
    obtain ⟨e, dx, w, ev, hc, he, hd, rw'⟩ := rep
    exact ⟨e, T.ecl c, some dx, cv, u, _, by rw [ev], kc, (et.c c hc).ec, S1.sub _ _ he, fun dx' hx => by cases hx; exact ⟨_, S1.sub _ _ hd⟩, h2 c hc, k1.bl S1⟩
  | er0 c =>
    cases ev1
    have rep := cold (.inr ⟨c, rfl⟩) rr
    unfold Rep at rep
    obtain ⟨e, ev, hc, he⟩ := rep
    exact ⟨e, T.zcl c, none, cv, u, _, by rw [ev], kc, (ez.c c hc).ec, S1.sub _ _ he, (fun dx' hx => by cases hx), h3 c hc, k1.bl S1⟩
  | _ => cases ev1
theorem pe_mkz {C : Addr} (E : ErrZ X.K C) (hm : X.mg x = some (.ref C)) (hg : Gl X x) (hdb : (x == ("__debug__" : Str)) = false) : PE X (.Call (.Name x p) [] [] pos) (fun σ H Q => ∀ e, H e = none → Q (.ref e) (upd H e (exo e C none))) := by
  refine ⟨fun pins s σ H Q I h => ?_⟩
  refine wpAny_Call_Name_kw (ld_glob I hg hm ?_ hdb)
  refine PySem.W.callWith_K0 I.kIn E.kp ?_
  obtain ⟨nm, N', qn, bs, bm, hdct, sn, sub, ab, col, dd, k0, k1, k2, k3, k5, hC, hT⟩ := PySem.W.excInit_of I.kIn E.q
  have hi := PySem.W.looks_findIn (M := model X.prog X.w) I.kIn E.iC
  obtain ⟨hp, g, dr, tk, os⟩ := s
  refine PySem.W.call_B F.excBase_ValueError hT hC hi (Nat.zero_le _) fun h' keep ho ht => ?_
  have hz : hp.objs.size ≤ hp.objs.size + 1 := Nat.le_succ _
  exact ⟨.ref (hp.objs.size + 1), _, I.laid (t' := tk) (h' := h') keep hz (exo_ok ho), rfl, h _ (I.hok.fresh hz)⟩
theorem s_mkz (ez : ErrZT X.K X.mg T nms) (hn : nms[c]? = some x) (hg : Gl X x) (hdb : (x == ("__debug__" : Str)) = false) : PE X (.Call (.Name x p) [] [] pos) (tE T X.K W C (.mkz c)) := by
  have hc : c < T.nz := by rw [ez.n]; exact (List.getElem?_eq_some_iff.mp hn).1
  refine PE.imp (pe_mkz (ez.c c hc) (ez.g c x hn) hg hdb) fun σ H Q ⟨Hen, G, ρ, P, r, S, ev, k⟩ e ne => ?_
  unfold evalE at ev
  cases ev
  obtain ⟨x1, pu1, s1⟩ := ext_newC (o := exo e (T.zcl c) none) S ne
  refine k _ _ _ x1 pu1 ?_
  unfold RRes Rep
  exact ⟨e, rfl, hc, upd_same⟩
end
end B


/-! .. repr. -/
namespace B
open PySem PySem.Spec L2
section
variable {T : Tb} {X : Cx} {pins : List (Addr × Obj)} {G : Gh} {H : Hp} {σ : St} {s : Shared}
mutual
theorem rep_reads (I : Inv X pins σ H s) (hsys : ∀ a xs, Rd H a (.lst xs) → a ≠ sysModules) (sub : Same G.Hf H) : ∀ (d : D) {v : V} {u : Value} {q : PyData}, Rep T G d v → RelV v u → d.pyR = some q → ∃ as, Reads s.heap u q as ∧ sysModules ∉ as
  | .non, v, u, q, r, ru, h => by
    unfold D.pyR at h; cases h; unfold Rep at r; subst r
    cases (show u = Value.none from ru)
    exact ⟨[], .none, by simp⟩
  | .bl b, v, u, q, r, ru, h => by
    unfold D.pyR at h; cases h; unfold Rep at r; subst r
    cases (show u = Value.bool b from ru)
    exact ⟨[], .bool b, by simp⟩
  | .int i, v, u, q, r, ru, h => by
    unfold D.pyR at h; cases h; unfold Rep at r; subst r
    obtain ⟨t, rfl⟩ := ru
    exact ⟨[], .int i t, by simp⟩
  | .str x, v, u, q, r, ru, h => by
    unfold D.pyR at h; cases h; unfold Rep at r; subst r
    obtain ⟨t, rfl⟩ := ru
    exact ⟨[], .str x t, by simp⟩
  | .tup xs, v, u, q, r, ru, h => by
    unfold D.pyR at h
    cases e : pyRL xs with
    | none => rw [e] at h; cases h
    | some l =>
      rw [e] at h; cases h
      unfold Rep at r
      obtain ⟨a, vs, ev, hq, rl⟩ := r
      subst ev
      obtain rfl : u = Value.ref a := ru
      obtain ⟨its, rv, ⟨o, e1, e2, n, e3⟩, hz⟩ := I.tuple (SqT.of (sub _ _ hq))
      obtain ⟨as, h1, h2⟩ := repL_reads I hsys sub xs rl rv e
      exact ⟨as, .tuple e1 e2 e3 (by simpa using h1), h2⟩
  | .lst xs, v, u, q, r, ru, h => by
    unfold D.pyR at h
    cases e : pyRL xs with
    | none => rw [e] at h; cases h
    | some l =>
      rw [e] at h; cases h
      unfold Rep at r
      obtain ⟨a, vs, ev, hq, rl⟩ := r
      subst ev
      obtain rfl : u = Value.ref a := ru
      have hq : Rd H a (.lst vs) := .inl (sub _ _ hq)
      obtain ⟨its, rv, ⟨o, n, e1, e2, e3, e4⟩, hz⟩ := I.list (.inl hq)
      obtain ⟨as, h1, h2⟩ := repL_reads I hsys sub xs rl rv e
      refine ⟨a :: as, .list e1 e2 e4 (by simpa using h1), fun z => ?_⟩
      rcases List.mem_cons.mp z with z | z
      · exact hsys a vs hq z.symm
      · exact h2 z
  | .dct kvs, v, u, q, r, ru, h => by
    unfold D.pyR at h
    cases e : pyRK kvs with
    | none => rw [e] at h; cases h
    | some l =>
      rw [e] at h; cases h
      unfold Rep at r
      obtain ⟨a, ev, r⟩ := r
      subst ev
      obtain rfl : u = Value.ref a := ru
      have core : ∀ ks, G.Hf a = some (.dK ks) → RepK T G kvs ks → ∃ as, Reads s.heap (.ref a) (.dict l) as ∧ sysModules ∉ as := fun ks hq rk => by
        obtain ⟨_, hs, vs, rel, o, es, ep, e1, e2, e3, e4, e5, e6⟩ := dk_of I.hok (sub _ _ hq)
        obtain ⟨as, bs, h1, h2, h3, h4⟩ := repK_reads I hsys sub kvs rk rel e5 e
        refine ⟨a :: as ++ bs, .dict e1 e2.1 e3 h1 h2, fun z => ?_⟩
        rcases List.mem_append.mp z with z | z
        · rcases List.mem_cons.mp z with z | z
          · rw [← z] at hs; simp at hs
          · exact h3 z
        · exact h4 z
      rcases r with ⟨ks, hq, rk⟩ | ⟨ks, hq, rk⟩
      · exact core ks hq rk
      · cases kvs with
        | nil =>
          unfold RepT at rk
          subst rk
          unfold pyRK at e
          cases e
          obtain ⟨_, hs, vs, rel, o, es, ep, e1, e2, e3, e4, _⟩ := dt_rd I.hok (.inl (sub _ _ hq))
          cases rel
          refine ⟨[a], ?_, fun z => ?_⟩
          · have : es.toList = [] := by rw [e4]; rfl
            have x := Reads.dict (kvs := []) (as := []) (bs := []) e1 e2.1 e3 (by rw [this]; exact .nil) (by rw [this]; exact .nil)
            exact x
          · rw [List.mem_singleton] at z
            rw [← z] at hs
            simp at hs
        | cons p kvs =>
          exfalso
          obtain ⟨kd, d⟩ := p
          unfold RepT at rk
          obtain ⟨qk, w, t, _, ek, _, _⟩ := rk
          unfold pyRK at e
          cases kd with
          | int i => cases ek
          | str x => cases ek
          | _ => cases e
  | .obj _ _, v, u, q, r, ru, h => by unfold D.pyR at h; cases h
  | .pur, v, u, q, r, ru, h => by unfold D.pyR at h; cases h
  | .fn _, v, u, q, r, ru, h => by unfold D.pyR at h; cases h
  | .err _ _, v, u, q, r, ru, h => by unfold D.pyR at h; cases h
  | .raw, v, u, q, r, ru, h => by unfold D.pyR at h; cases h
  | .er0 _, v, u, q, r, ru, h => by unfold D.pyR at h; cases h
theorem repL_reads (I : Inv X pins σ H s) (hsys : ∀ a xs, Rd H a (.lst xs) → a ≠ sysModules) (sub : Same G.Hf H) : ∀ (ds : List D) {vs : List V} {us : List Value} {l : List PyData}, RepL T G ds vs → Vals vs us → pyRL ds = some l → ∃ as, ReadsAll s.heap us l as ∧ sysModules ∉ as
  | [], vs, us, l, r, rv, h => by
    unfold pyRL at h; cases h
    unfold RepL at r; subst r
    cases rv
    exact ⟨[], .nil, by simp⟩
  | x :: xs, vs, us, l, r, rv, h => by
    unfold RepL at r
    obtain ⟨v, t, e, r1, r2⟩ := r
    subst e
    unfold pyRL at h
    cases e1 : D.pyR x with
    | none => rw [e1] at h; cases h
    | some p =>
      cases e2 : pyRL xs with
      | none => rw [e1, e2] at h; cases h
      | some ps =>
        rw [e1, e2] at h
        cases h
        cases rv with
        | cons rv1 rv2 =>
          obtain ⟨as, h1, h2⟩ := rep_reads I hsys sub x r1 rv1 e1
          obtain ⟨bs, h3, h4⟩ := repL_reads I hsys sub xs r2 rv2 e2
          exact ⟨as ++ bs, .cons h1 h3, fun z => (List.mem_append.mp z).elim h2 h4⟩
theorem repK_reads (I : Inv X pins σ H s) (hsys : ∀ a xs, Rd H a (.lst xs) → a ≠ sysModules) (sub : Same G.Hf H) : ∀ (kvs : List (D × D)) {ks : List (Key × V)} {vs : List (Key × Value)} {es : List DictEntry} {l : List (PyData × PyData)}, RepK T G kvs ks → KV ks vs → Pairs (mixKind X.prog X.w) es vs → pyRK kvs = some l →
    ∃ as bs, ReadsAll s.heap (es.map (·.key)) (l.map (·.1)) as ∧ ReadsAll s.heap (es.map (·.val)) (l.map (·.2)) bs ∧ sysModules ∉ as ∧ sysModules ∉ bs
  | [], ks, vs, es, l, r, rv, pr, h => by
    unfold pyRK at h; cases h
    unfold RepK at r; subst r
    cases rv
    cases pr
    exact ⟨[], [], .nil, .nil, by simp, by simp⟩
  | (k, d) :: kvs, ks, vs, es, l, r, rv, pr, h => by
    unfold RepK at r
    obtain ⟨q, v, t, e, ek, r1, r2⟩ := r
    subst e
    unfold pyRK at h
    cases e1 : k.key1 with
    | none => simp only [e1] at h; cases h
    | some p =>
      cases e2 : D.pyR d with
      | none => simp only [e1, e2] at h; cases h
      | some pd =>
        cases e3 : pyRK kvs with
        | none => simp only [e1, e2, e3] at h; cases h
        | some ps =>
          simp only [e1, e2, e3] at h
          cases h
          cases rv with
          | cons rv1 rv2 =>
            cases pr with
            | cons p1 p2 p3 =>
              rename_i kv vs' e' es'
              obtain ⟨k1, rv1⟩ := rv1
              obtain ⟨as, h1, h2⟩ := rep_reads I hsys sub d r1 rv1 e2
              obtain ⟨as', bs', g1, g2, g3, g4⟩ := repK_reads I hsys sub kvs r2 rv2 p3 e3
              have hk : ∃ ak, Reads s.heap e'.key p ak ∧ sysModules ∉ ak := by
                have p1 : keyIs kv.1 e'.key = true := p1
                have k1 : q = kv.1 := k1
                cases k with
                | int i =>
                  cases ek; cases e1
                  rcases keyIs_shape p1 with ⟨j, t, ej, et⟩ | ⟨x, t, ej, et⟩
                  · rw [← k1] at ej; cases ej; rw [et]; exact ⟨[], .int i t, by simp⟩
                  · rw [← k1] at ej; cases ej
                | str x =>
                  cases ek; cases e1
                  rcases keyIs_shape p1 with ⟨j, t, ej, et⟩ | ⟨y, t, ej, et⟩
                  · rw [← k1] at ej; cases ej
                  · rw [← k1] at ej; cases ej; rw [et]; exact ⟨[], .str x t, by simp⟩
                | _ => cases ek
              obtain ⟨ak, f1, f2⟩ := hk
              refine ⟨ak ++ as', as ++ bs', .cons f1 g1, .cons (by show Reads s.heap e'.val pd as; rw [p2]; exact h1) g2, fun z => (List.mem_append.mp z).elim f2 g3, fun z => (List.mem_append.mp z).elim h2 g4⟩
end
/-- repr(x), by values -/
def rRepr (T : Tb) : List V → Hp → VK → Prop := fun xs H Q => ∃ (v : V) (G : Gh) (d : D) (q : PyData), xs = [v] ∧ Rep T G d v ∧ Same G.Hf H ∧ d.pyR = some q ∧ q.showable = true ∧ q.depth ≤ 60 ∧ q.shown.length ≤ sizeLine ∧ Q (.str q.shown) H
theorem call_reprG (hgd : X.A.guards = some []) (hu : X.A.units + 64 < cLine) (hk : ∃ o, X.K.lookup sysModules = some o ∧ o.cls = .type "dict") : CallR X (.builtin "repr") (rRepr T) := by
  intro pins s σ H xs us Q I r h
  obtain ⟨v, G, d, q, rfl, rep, sub, hq, h1, h2, h3, qq⟩ := h
  cases r with
  | cons rv rr =>
    cases rr
    have hsys : ∀ a xs, Rd H a (.lst xs) → a ≠ sysModules := fun a xs hr z => by
      obtain ⟨o, ho, hc⟩ := hk
      obtain ⟨its, rv', ⟨o', n, e1, e2, _, _⟩, _⟩ := I.list (.inl hr)
      rw [z, I.kIn _ _ ho] at e1
      cases e1
      rw [hc] at e2
      injection e2 with e2
      exact absurd e2 (by decide)
    obtain ⟨as, rd, hs⟩ := rep_reads I hsys sub d rep rv hq
    have fin : ∀ (h' : Heap) (u tk : Tok), (∀ b o, s.heap.get? b = some o → h'.get? b = some o) → EP X pins σ Q (.str q.shown u) { s with heap := h', toks := tk } := fun h' u tk k => ⟨.str q.shown, H, I.kept (t' := tk) k, ⟨u, rfl⟩, qq⟩
    cases rd with
    | none => exact PySem.P.repr_of_none (fin _ _ _ fun _ _ z => z)
    | bool b => exact PySem.P.repr_of_bool (fin _ _ _ fun _ _ z => z)
    | int i t => exact PySem.P.repr_of_int (of_decide_eq_true h1) (fin _ _ _ fun _ _ z => z)
    | str x t => exact PySem.P.repr_of_str (fin _ _ _ fun _ _ z => z) h3
    | list a1 a2 a3 a4 => exact repr_of_reads' (.list a1 a2 a3 a4) h1 (fun _ => hs) hgd (by omega) (fun _ _ z => z) fin h3
    | tuple a1 a2 a3 a4 => exact repr_of_reads' (.tuple a1 a2 a3 a4) h1 (fun _ => hs) hgd (by omega) (fun _ _ z => z) fin h3
    | dict a1 a2 a3 a4 a5 => exact repr_of_reads' (.dict a1 a2 a3 a4 a5) h1 (fun _ => hs) hgd (by omega) (fun _ _ z => z) fin h3
end
section
variable {T : Tb} {X : Cx} {K : PySem.W.Frag} {W : WX} {C : Calls} {Hen : Hp} {G G1 : Gh} {P P1 : Option Pu} {H H0 H1 : Hp} {σ : St} {ρ : Sl} {Q Q' : VK} {r : R} {p pos : Pos} {a : Expr} {ea : E}
theorem s_repr (hgd : X.A.guards = some []) (hu : X.A.units + 64 < cLine) (hk : ∃ o, X.K.lookup sysModules = some o ∧ o.cls = .type "dict") (hg : Gl X "repr") (hm : X.mg "repr" = none) (ha : PE X a (tE T X.K W C ea)) (hs : starEach [a] X.env = [(false, eval a X.env)]) : PE X (.Call (.Name "repr" p) [a] [] pos) (tE T X.K W C (.bi .repr ea)) := by
  refine PE.imp (pe_callB (call_reprG (T := T) hgd hu hk) hg hm (by decide +kernel) (pa_cons ha pa_nil hs) (he := hs)) fun σ H Q ⟨Hen, G, ρ, P, r, S, ev, k⟩ => ?_
  unfold evalE at ev
  refine thenE S ev k fun d m P1 v G1 H1 S1 rr x1 ev1 k1 => ?_
  have hm : m ≠ .bor := fun z => by subst z; cases ev1
  have ev1 : rok (match reprD d with
    | some x => some (.str x, .cold)
    | none => none) P1 = some r := by
    cases m with
    | bor => exact absurd rfl hm
    | cold => exact ev1
    | fresh => exact ev1
  cases e1 : reprD d with
  | none => rw [e1] at ev1; cases ev1
  | some x =>
    rw [e1] at ev1
    cases ev1
    unfold reprD at e1
    cases e2 : d.pyR with
    | none => rw [e2] at e1; cases e1
    | some q =>
      rw [e2] at e1
      dsimp only at e1
      split at e1
      · rename_i hz
        cases e1
        rw [Bool.and_eq_true, Bool.and_eq_true] at hz
        have hz2 : q.shown.length ≤ LIM := of_decide_eq_true hz.2.2
        obtain ⟨G2, s2, rep⟩ : ∃ G2 : Gh, Same G2.Hf H1 ∧ Rep T G2 d v := by
          cases m with
          | cold => exact ⟨G1, S1.sub, rr⟩
          | fresh =>
            obtain ⟨G2, ep, t1, t2, t3, pu2, rep⟩ := rr.freeze S1.sub (by decide) S1.pu fun _ _ => trivial
            exact ⟨G2, t2, rep⟩
          | bor => exact absurd rfl hm
        exact ⟨v, G2, d, q, rfl, rep, s2, e2, hz.1, of_decide_eq_true hz.2.1, lim_line hz2, k1.str S1⟩
      · cases e1
end
end B


/-! What the prelude's defs compute, in plain Lean: numbers drawn, one of a list, words. -/
namespace B
open PySem
def irMixed : Fd := { np := 3, ns := 4, fix := true, body := (.cons (.set 3 (.bin .add (.bin .mul (.var 0) (.cst (.int 69069))) (.bin .mul (.bin .mul (.cst (.int 104729)) (.var 1)) (.var 1)))) (.cons (.set 3 (.bin .mod (.bi .int (.bin .add (.bin .add (.var 3) (.bin .mul (.cst (.int 7919)) (.var 2))) (.var 1))) (.cst (.int 2147483647)))) (.cons (.set 3 (.bin .mod (.bi .int (.bin .add (.bin .mul (.var 3) (.var 3)) (.cst (.int 40503)))) (.cst (.int 2147483629)))) (.cons (.ret (.bin .mod (.bi .int (.bin .mul (.var 3) (.cst (.int 48271)))) (.cst (.int 2147483587)))) .nil)))) }
def irDraw : Fd := { np := 2, ns := 5, fix := true, body := (.cons (.ife (.cmp .gt (.sub (.var 0) (.cst (.int 0))) (.cst (.int 0))) (.cons (.set 4 (.bin .mod (.bi .int (.sub (.var 0) (.cst (.int 0)))) (.var 1))) (.cons (.ppu 0 0 (.bin .fdv (.sub (.var 0) (.cst (.int 0))) (.var 1))) (.cons (.ret (.var 4)) .nil))) .nil) (.cons (.set 2 (.cst (.int 0))) (.cons (.forr (.one 3) (.rng (.bin .add (.cst (.int 1)) (.bin .fdv (.bm .bitlen (.var 1)) (.cst (.int 28))))) (.cons (.ppu 0 2 (.bin .add (.sub (.var 0) (.cst (.int 2))) (.cst (.int 1)))) (.cons (.set 2 (.bin .add (.bin .mul (.var 2) (.cst (.int 2147483587))) (.call 0 (.cons (.sub (.var 0) (.cst (.int 1))) (.cons (.sub (.var 0) (.cst (.int 2))) (.cons (.sub (.var 0) (.cst (.int 3))) .nil)))))) .nil))) (.cons (.ret (.bin .mod (.bi .int (.var 2)) (.var 1))) .nil)))) }
def irOne : Fd := { np := 2, ns := 2, fix := true, body := (.cons (.ret (.sub (.var 1) (.call 1 (.cons (.var 0) (.cons (.bi .len (.var 1)) .nil))))) .nil) }
def irWord : Fd := { np := 1, ns := 3, fix := true, body := (.cons (.set 1 (.bin .add (.cst (.int 1)) (.call 1 (.cons (.var 0) (.cons (.ife (.cmp .eq (.call 1 (.cons (.var 0) (.cons (.cst (.int 3)) .nil))) (.cst (.int 0))) (.cst (.int 8)) (.cst (.int 3))) .nil))))) (.cons (.ret (.bm1 .join (.cst (.str "")) (.lc (.one 2) (.rng (.var 1)) (.sub (.cst (.str "abcdefghijklmnopqrstuvwxyz")) (.call 1 (.cons (.var 0) (.cons (.cst (.int 26)) .nil))))))) .nil)) }
theorem pb_add {i j : Int} : binD .add (.int i) (.int j) = some (.int (i + j), .cold) := rfl
theorem pb_sub {i j : Int} : binD .sub (.int i) (.int j) = some (.int (i - j), .cold) := rfl
theorem pb_mod {i j : Int} (h : 0 < j) : binD .mod (.int i) (.int j) = some (.int (i % j), .cold) := by
  show (if decide (0 < j) then _ else _) = _
  rw [if_pos (decide_eq_true h)]
theorem pb_fdv {i j : Int} (h : 0 < j) (h2 : j < 1073741824) : binD .fdv (.int i) (.int j) = some (.int (i / j), .cold) := by
  show (if decide (0 < j) && decide (j < 1073741824) then _ else _) = _
  rw [if_pos (by rw [decide_eq_true h, decide_eq_true h2]; rfl)]
theorem pb_small {i : Int} (h : -(2 ^ 64) < i) (h2 : i < 2 ^ 64) : small i = true := by
  unfold small
  rw [decide_eq_true h, decide_eq_true h2]; rfl
theorem pb_mul {i j : Int} (h : small i = true ∨ small j = true) : binD .mul (.int i) (.int j) = some (.int (i * j), .cold) := by
  show (if small i || small j then _ else _) = _
  rw [if_pos (by rcases h with h | h <;> simp [h])]
section
variable {tab : Nat → Option Fd}
theorem mixed_ok (h0 : tab 0 = some irMixed) (k : Nat) (s t a : Int) (P : Option Pu) (ht : 0 ≤ t) (ht2 : t < 2 ^ 62) : ∃ r : Int, calls tab (k + 1) 0 [.int s, .int t, .int a] P = some (.ok (.int r) .cold P) ∧ 0 ≤ r ∧ r < 2147483587 := by
  have e1 : binD .mul (.int s) (.int 69069) = some (.int (s * 69069), .cold) := pb_mul (.inr (by decide))
  have e2 : binD .mul (.int 104729) (.int t) = some (.int (104729 * t), .cold) := pb_mul (.inl (by decide))
  have e3 : binD .mul (.int (104729 * t)) (.int t) = some (.int (104729 * t * t), .cold) := pb_mul (.inr (pb_small (by omega) (by omega)))
  have e4 : binD .mul (.int 7919) (.int a) = some (.int (7919 * a), .cold) := pb_mul (.inl (by decide))
  generalize hm : (s * 69069 + 104729 * t * t + 7919 * a + t) % 2147483647 = m
  have m0 : 0 ≤ m := by rw [← hm]; exact Int.emod_nonneg _ (by decide)
  have m1 : m < 2147483647 := by rw [← hm]; exact Int.emod_lt_of_pos _ (by decide)
  have e5 : binD .mul (.int m) (.int m) = some (.int (m * m), .cold) := pb_mul (.inl (pb_small (by omega) (by omega)))
  have e6 : ∀ n : Int, binD .mul (.int n) (.int 48271) = some (.int (n * 48271), .cold) := fun n => pb_mul (.inr (by decide))
  have d1 : ∀ i : Int, binD .mod (.int i) (.int 2147483647) = some (.int (i % 2147483647), .cold) := fun i => pb_mod (by decide)
  have d2 : ∀ i : Int, binD .mod (.int i) (.int 2147483629) = some (.int (i % 2147483629), .cold) := fun i => pb_mod (by decide)
  have d3 : ∀ i : Int, binD .mod (.int i) (.int 2147483587) = some (.int (i % 2147483587), .cold) := fun i => pb_mod (by decide)
  refine ⟨((m * m + 40503) % 2147483629 * 48271) % 2147483587, ?_, Int.emod_nonneg _ (by decide), Int.emod_lt_of_pos _ (by decide)⟩
  simp only [calls, h0, runFd, irMixed, startS, List.map, List.length, List.replicate, List.append, List.cons_append, List.nil_append, execs, exec, evalE, obnd, bnd, rok, rget, List.getElem?_cons_zero, List.getElem?_cons_succ, e1, e2, e3, e4, pb_add, slotOf, List.set, d1, hm, e5, biM, biD, d2, e6, d3, if_true]
end
def MixOk (C : Calls) : Prop := ∀ (s t a : Int) (P : Option Pu), 0 ≤ t → t < 2 ^ 62 → ∃ r : Int, C 0 [.int s, .int t, .int a] P = some (.ok (.int r) .cold P) ∧ 0 ≤ r ∧ r < 2147483587
def DrawOk (C : Calls) : Prop := ∀ (P : Pu) (m : Int), 0 < m → m < 2 ^ 28 → 0 ≤ P.c → P.c < 2 ^ 61 → ∃ (r : Int) (P' : Pu), C 1 [.pur, .int m] (some P) = some (.ok (.int r) .cold (some P')) ∧ 0 ≤ r ∧ r < m ∧ P.c ≤ P'.c ∧ P'.c ≤ P.c + 2 ∧ P'.b = P.b
theorem bits_small {m : Int} (h0 : 0 < m) (h : m < 2 ^ 28) : (1 + ((Builtin.Int.intBits m : Nat) : Int) / 28 = 1) ∨ (1 + ((Builtin.Int.intBits m : Nat) : Int) / 28 = 2) := by
  have : Builtin.Int.intBits m ≤ 28 := intBits_le_iff.mpr (by omega)
  omega
theorem pur_get0 {P : Pu} : subM .cold (some P) .pur (.int 0) = some (.int P.a) := rfl
theorem pur_get1 {P : Pu} : subM .cold (some P) .pur (.int 1) = some (.int P.b) := rfl
theorem pur_get2 {P : Pu} : subM .cold (some P) .pur (.int 2) = some (.int P.c) := rfl
theorem pur_get3 {P : Pu} : subM .cold (some P) .pur (.int 3) = some (.int P.d) := rfl
theorem cmp_gtI {m : Mode} {i j : Int} : cmpM .gt m (.int i) (.int j) = some (decide (j < i)) := by cases m <;> rfl
theorem cmp_eqI {m : Mode} {i j : Int} : cmpM .eq m (.int i) (.int j) = some (decide (i = j)) := by
  have e : eqD (.int i) (.int j) = some (decide (i = j)) := by
    show (if min (PyData.int i).depth (PyData.int j).depth ≤ 60 then some (PyData.eqv (.int i) (.int j)) else none) = _
    rw [if_pos (by simp [PyData.depth])]
    by_cases h : i = j <;> simp [PyData.eqv, h]
  cases m <;> exact e
theorem draw_run {C : Calls} (hC : MixOk C) (P : Pu) (m : Int) (hm0 : 0 < m) (hm1 : m < 2 ^ 28) (hc0 : 0 ≤ P.c) (hc1 : P.c < 2 ^ 61) :
    ∃ (r : Int) (P' : Pu), runFd C irDraw [.pur, .int m] (some P) = some (.ok (.int r) .cold (some P')) ∧ 0 ≤ r ∧ r < m ∧ P.c ≤ P'.c ∧ P'.c ≤ P.c + 2 ∧ P'.b = P.b := by
  have f1 : ∀ i : Int, binD .fdv (.int i) (.int m) = some (.int (i / m), .cold) := fun i => pb_fdv hm0 (by omega)
  have f2 : ∀ i : Int, binD .fdv (.int i) (.int 28) = some (.int (i / 28), .cold) := fun i => pb_fdv (by decide) (by decide)
  have d1 : ∀ i : Int, binD .mod (.int i) (.int m) = some (.int (i % m), .cold) := fun i => pb_mod hm0
  have e1 : ∀ i : Int, binD .mul (.int i) (.int 2147483587) = some (.int (i * 2147483587), .cold) := fun i => pb_mul (.inr (by decide))
  by_cases ha : 0 < P.a
  · refine ⟨P.a % m, { P with a := P.a / m }, ?_, Int.emod_nonneg _ (by omega), Int.emod_lt_of_pos _ hm0, Int.le_refl _, by show P.c ≤ P.c + 2; omega, rfl⟩
    simp only [runFd, irDraw, startS, List.map, List.length, List.replicate, List.cons_append, List.nil_append, execs, exec, evalE, obnd, bnd, rok, rco, rbl, rget, List.getElem?_cons_zero, List.getElem?_cons_succ, pur_get0, cmp_gtI, truth, decide_eq_true ha, biM, biD, d1, slotOf, List.set, f1, Pu.put, if_true]
    rfl
  · have na : decide (0 < P.a) = false := decide_eq_false ha
    have l1 : (1 : Int) ≤ LIM ∧ -(LIM : Int) ≤ 1 := by unfold LIM; omega
    have l2 : (2 : Int) ≤ LIM ∧ -(LIM : Int) ≤ 2 := by unfold LIM; omega
    have u1 : upTo 0 (1 : Int).toNat = [.int 0] := rfl
    have u2 : upTo 0 (2 : Int).toNat = [.int 0, .int (0 + 1)] := rfl
    rcases bits_small hm0 hm1 with hn | hn
    · obtain ⟨r1, h1, _, _⟩ := hC P.b (P.c + 1) P.d (some { P with c := P.c + 1 }) (by omega) (by omega)
      refine ⟨(0 * 2147483587 + r1) % m, { P with c := P.c + 1 }, ?_, Int.emod_nonneg _ (by omega), Int.emod_lt_of_pos _ hm0, by show P.c ≤ P.c + 1; omega, by show P.c + 1 ≤ P.c + 2; omega, rfl⟩
      simp only [runFd, irDraw, startS, List.map, List.length, List.replicate, List.cons_append, List.nil_append, execs, exec, evalE, evalEs, obnd, bnd, bndL, rok, rco, rbl, rget, List.getElem?_cons_zero, List.getElem?_cons_succ, pur_get0, pur_get1, pur_get2, pur_get3, cmp_gtI, truth, na, biM, biD, bmD, d1, slotOf, List.set, f1, f2, e1, Pu.put, if_true,
        evalItF, frz, evalIt, hn, l1, u1, forGo, Tg.put, pb_add, h1, reO, and_self, Nat.reduceLT, ↓reduceIte]
    · obtain ⟨r1, h1, _, _⟩ := hC P.b (P.c + 1) P.d (some { P with c := P.c + 1 }) (by omega) (by omega)
      obtain ⟨r2, h2, _, _⟩ := hC P.b (P.c + 1 + 1) P.d (some { P with c := P.c + 1 + 1 }) (by omega) (by omega)
      refine ⟨((0 * 2147483587 + r1) * 2147483587 + r2) % m, { P with c := P.c + 1 + 1 }, ?_, Int.emod_nonneg _ (by omega), Int.emod_lt_of_pos _ hm0, by show P.c ≤ P.c + 1 + 1; omega, by show P.c + 1 + 1 ≤ P.c + 2; omega, rfl⟩
      simp only [runFd, irDraw, startS, List.map, List.length, List.replicate, List.cons_append, List.nil_append, execs, exec, evalE, evalEs, obnd, bnd, bndL, rok, rco, rbl, rget, List.getElem?_cons_zero, List.getElem?_cons_succ, pur_get0, pur_get1, pur_get2, pur_get3, cmp_gtI, truth, na, biM, biD, bmD, d1, slotOf, List.set, f1, f2, e1, Pu.put, if_true,
        evalItF, frz, evalIt, hn, l2, u2, forGo, Tg.put, pb_add, h1, h2, reO, and_self, Nat.reduceLT, ↓reduceIte]
theorem draw_ok {tab : Nat → Option Fd} (h0 : tab 0 = some irMixed) (h1 : tab 1 = some irDraw) (k : Nat) : DrawOk (calls tab (k + 2)) := fun P m a1 a2 a3 a4 => by
  have e : ∀ ds P, calls tab (k + 2) 1 ds P = runFd (calls tab (k + 1)) irDraw ds P := fun ds P => by
    show (match tab 1 with
      | some fd => runFd (calls tab (k + 1)) fd ds P
      | none => none) = _
    rw [h1]
  rw [e]
  exact draw_run (fun s t a P h1 h2 => mixed_ok h0 k s t a P h1 h2) P m a1 a2 a3 a4
theorem one_run {C : Calls} (hD : DrawOk C) (P : Pu) (xs : List D) (hx : 0 < xs.length) (hx2 : xs.length < 2 ^ 28) (hc0 : 0 ≤ P.c) (hc1 : P.c < 2 ^ 61) :
    ∃ (i : Nat) (d : D) (P' : Pu), runFd C irOne [.pur, .lst xs] (some P) = some (.ok d .cold (some P')) ∧ xs[i]? = some d ∧ P.c ≤ P'.c ∧ P'.c ≤ P.c + 2 ∧ P'.b = P.b := by
  obtain ⟨r, P', h1, r0, r1, c0, c1, hb⟩ := hD P xs.length (by omega) (by omega) hc0 hc1
  have hr : r.toNat < xs.length := by omega
  refine ⟨r.toNat, xs[r.toNat], P', ?_, by simp [hr], c0, c1, hb⟩
  have e : subM .cold (some P') (.lst xs) (.int r) = some xs[r.toNat] := by
    show L2.atI xs r = _
    unfold L2.atI L2.ixN
    rw [if_pos r0, if_pos (by omega)]
    show xs[r.toNat]? = _
    simp [hr]
  simp only [runFd, irOne, startS, List.map, List.length, List.replicate, List.cons_append, List.nil_append, execs, exec, evalE, evalEs, obnd, bnd, bndL, rok, rco, rget, List.getElem?_cons_zero, List.getElem?_cons_succ, biM, biD, h1, reO, e, ↓reduceIte]
/-! words -/
def Sm (x : Str) : Prop := ∀ c ∈ x.cps.toList, c < 16 ^ 8
theorem sm_app {x y : Str} (hx : Sm x) (hy : Sm y) : Sm (x ++ y) := fun c h => by
  rw [PySem.W.KT.app_list] at h
  exact (List.mem_append.mp h).elim (hx c) (hy c)
def Chr (d : D) : Prop := ∃ c : Nat, d = .str ⟨#[c]⟩ ∧ c < 128
theorem turns_draw {f : D → Option Pu → Option (Option D × Option Pu)} (hf : ∀ x (P : Pu), 0 ≤ P.c → P.c < 2 ^ 60 → ∃ d P', f x (some P) = some (some d, some P') ∧ Chr d ∧ P.c ≤ P'.c ∧ P'.c ≤ P.c + 2 ∧ P'.b = P.b) :
    ∀ (xs : List D) (P : Pu) (acc : List D), 0 ≤ P.c → P.c + 2 * xs.length < 2 ^ 60 → ∃ ds P', turns f xs (some P) acc = some (acc ++ ds, some P') ∧ ds.length = xs.length ∧ (∀ d ∈ ds, Chr d) ∧ P.c ≤ P'.c ∧ P'.c ≤ P.c + 2 * xs.length ∧ P'.b = P.b
  | [], P, acc, h0, h1 => ⟨[], P, by unfold turns; rw [List.append_nil], rfl, by simp, Int.le_refl _, by simp, rfl⟩
  | x :: xs, P, acc, h0, h1 => by
    rw [List.length_cons] at h1
    obtain ⟨d, P1, e1, g1, c1, c2, b1⟩ := hf x P h0 (by omega)
    obtain ⟨ds, P2, e2, l2, g2, c3, c4, b2⟩ := turns_draw hf xs P1 (acc ++ [d]) (by omega) (by omega)
    refine ⟨d :: ds, P2, ?_, by rw [List.length_cons, List.length_cons, l2], fun y hy => ?_, by omega, by rw [List.length_cons]; omega, b2.trans b1⟩
    · unfold turns
      rw [e1]
      show turns f xs (some P1) (acc ++ [d]) = _
      rw [e2, List.append_assoc]
      rfl
    · rcases List.mem_cons.mp hy with h | h
      · rw [h]; exact g1
      · exact g2 y h
theorem chr_strs : ∀ {ds : List D}, (∀ d ∈ ds, Chr d) → ∃ zs, strsD ds = some zs ∧ zs.length = ds.length ∧ (∀ z ∈ zs, z.length = 1) ∧ ∀ z ∈ zs, Sm z
  | [], _ => ⟨[], rfl, rfl, by simp, by simp⟩
  | d :: ds, h => by
    obtain ⟨c, e, hc⟩ := h d List.mem_cons_self
    obtain ⟨zs, h1, h2, h3, h4⟩ := chr_strs (ds := ds) fun y hy => h y (List.mem_cons_of_mem _ hy)
    refine ⟨⟨#[c]⟩ :: zs, by rw [e]; show (strsD ds).map _ = _; rw [h1]; rfl, by rw [List.length_cons, List.length_cons, h2], fun z hz => ?_, fun z hz => ?_⟩
    · rcases List.mem_cons.mp hz with q | q
      · rw [q]; rfl
      · exact h3 z q
    · rcases List.mem_cons.mp hz with q | q
      · rw [q]
        intro x hx
        have : x = c := by simpa using hx
        omega
      · exact h4 z q
theorem sm_join {sep : Str} (hs : Sm sep) : ∀ {l : List Str}, (∀ x ∈ l, Sm x) → Sm (Str.join sep l)
  | [], _ => fun c h => by
    have h : c ∈ (Str.empty).cps.toList := h
    simp [Str.empty] at h
  | [x], h => h x List.mem_cons_self
  | x :: y :: r, h => sm_app (sm_app (h x List.mem_cons_self) hs) (sm_join hs (l := y :: r) fun z hz => h z (List.mem_cons_of_mem _ hz))
theorem upTo_len' : ∀ (n : Nat) (lo : Int), (upTo lo n).length = n
  | 0, lo => rfl
  | n + 1, lo => by unfold upTo; rw [List.length_cons, upTo_len' n]
def alpha : Str := "abcdefghijklmnopqrstuvwxyz"
theorem alpha_at {r : Int} (h0 : 0 ≤ r) (h1 : r < 26) : ∃ c : Nat, subD (.str alpha) (.int r) = some (.str ⟨#[c]⟩) ∧ c < 128 := by
  have hl : alpha.length ≤ LIM := by decide +kernel
  have hn : alpha.cps.toList.length = 26 := by decide +kernel
  have hall : ∀ c ∈ alpha.cps.toList, c < 128 := by decide +kernel
  have hr : r.toNat < alpha.cps.toList.length := by omega
  refine ⟨alpha.cps.toList[r.toNat], ?_, hall _ (List.getElem_mem hr)⟩
  show (if alpha.length ≤ LIM then (L2.atI alpha.cps.toList r).map fun c => D.str ⟨#[c]⟩ else none) = _
  rw [if_pos hl]
  unfold L2.atI L2.ixN
  rw [if_pos h0, if_pos (by omega)]
  show (alpha.cps.toList[r.toNat]?).map _ = _
  rw [List.getElem?_eq_getElem hr]
  rfl
def wρ (q : Int) : Sl := [Slot.cold .pur, .cold (.int (1 + q)), .no]
def wordTurn (C : Calls) (q : Int) : D → Option Pu → Option (Option D × Option Pu) := fun x P => match (Tg.one 2).put x (wipeS (wρ q) (Tg.one 2).slots) with
      | some ρx => match evalE C (.sub (.cst (.str "abcdefghijklmnopqrstuvwxyz")) (.call 1 (.cons (.var 0) (.cons (.cst (.int 26)) .nil)))) ρx P with
        | some (.ok d .bor _) => none
        | some (.ok d _ P') => some (some d, P')
        | _ => none
      | none => none
theorem sum_ones : ∀ {zs : List Str}, (∀ z ∈ zs, z.length = 1) → (zs.map (·.length)).sum = zs.length
  | [], _ => rfl
  | z :: zs, h => by
    rw [List.map_cons, List.sum_cons, h z List.mem_cons_self, sum_ones fun y hy => h y (List.mem_cons_of_mem _ hy), List.length_cons]
    omega
theorem word_run {C : Calls} (hD : DrawOk C) (P : Pu) (hc0 : 0 ≤ P.c) (hc1 : P.c < 2 ^ 59) :
    ∃ (w : Str) (P' : Pu), runFd C irWord [.pur] (some P) = some (.ok (.str w) .cold (some P')) ∧ w.length ≤ 8 ∧ Sm w ∧ P.c ≤ P'.c ∧ P'.c ≤ P.c + 20 ∧ P'.b = P.b := by
  obtain ⟨r, P1, h1, r0, r1, c0, c1, b1⟩ := hD P 3 (by omega) (by omega) hc0 (by omega)
  obtain ⟨m, hm, m0⟩ : ∃ m : Int, ((r = 0 ∧ m = 8) ∨ (r ≠ 0 ∧ m = 3)) ∧ (m = 8 ∨ m = 3) := by
    by_cases h : r = 0
    · exact ⟨8, .inl ⟨h, rfl⟩, .inl rfl⟩
    · exact ⟨3, .inr ⟨h, rfl⟩, .inr rfl⟩
  obtain ⟨q, P2, h2, q0, q1, c2, c3, b2⟩ := hD P1 m (by omega) (by omega) (by omega) (by omega)
  have hq : q < 8 := by omega
  have hl : (1 + q ≤ (LIM : Int)) ∧ -(LIM : Int) ≤ 1 + q := by unfold LIM; omega
  have hturn : ∀ x (P : Pu), 0 ≤ P.c → P.c < 2 ^ 60 → ∃ d P', wordTurn C q x (some P) = some (some d, some P') ∧ Chr d ∧ P.c ≤ P'.c ∧ P'.c ≤ P.c + 2 ∧ P'.b = P.b := by
    intro x P p0 p1
    obtain ⟨z, P', h3, z0, z1, c4, c5, b3⟩ := hD P 26 (by omega) (by omega) p0 (by omega)
    obtain ⟨c, hc, hc2⟩ := alpha_at z0 z1
    have hc' : subM .cold (some P') (.str alpha) (.int z) = some (.str ⟨#[c]⟩) := hc
    refine ⟨_, P', ?_, ⟨c, rfl, hc2⟩, c4, c5, b3⟩
    have ea : (D.str "abcdefghijklmnopqrstuvwxyz") = .str alpha := rfl
    simp only [wordTurn, wρ, Tg.put, Tg.slots, wipeS, List.set, evalE, evalEs, bnd, bndL, rco, rget, List.getElem?_cons_zero, List.getElem?_cons_succ, h3, reO, ea, hc']
  obtain ⟨ds, P3, h4, l4, g4, c6, c7, b4⟩ := turns_draw hturn (upTo 0 (1 + q).toNat) P2 [] (by omega) (by rw [upTo_len']; omega)
  rw [upTo_len'] at l4 c7
  obtain ⟨zs, z1, z2, z3, z4⟩ := chr_strs g4
  have hlc : evalE C (.lc (.one 2) (.rng (.var 1)) (.sub (.cst (.str "abcdefghijklmnopqrstuvwxyz")) (.call 1 (.cons (.var 0) (.cons (.cst (.int 26)) .nil))))) (wρ q) (some P2) = some (.ok (.lst ds) .fresh (some P3)) := by
    have hit : evalIt C (.rng (.var 1)) (wρ q) (some P2) = some (.ok (upTo 0 (1 + q).toNat) (some P2)) := by
      show (if 1 + q ≤ (LIM : Int) ∧ -(LIM : Int) ≤ 1 + q then _ else _) = _
      rw [if_pos hl]
    have step : evalE C (.lc (.one 2) (.rng (.var 1)) (.sub (.cst (.str "abcdefghijklmnopqrstuvwxyz")) (.call 1 (.cons (.var 0) (.cons (.cst (.int 26)) .nil))))) (wρ q) (some P2) = bndL (evalIt C (.rng (.var 1)) (wρ q) (some P2)) (fun xs P => match turns (wordTurn C q) xs P [] with
        | some (ds, P') => some (.ok (.lst ds) .fresh P')
        | none => none) := by
      rw [evalE]
      rfl
    rw [step, hit]
    show (match turns (wordTurn C q) (upTo 0 (1 + q).toNat) (some P2) [] with
        | some (ds, P') => some (R.ok (.lst ds) .fresh P')
        | none => none) = _
    rw [h4]
    rfl
  have hj : bm1D .join (.str "") (.lst ds) = some (.str (Txt.join "" zs), .cold) := by
    show (match strsD ds with
      | some (zs : List Str) => if ((zs.map (fun z : Str => z.length)).sum + (Str.ofString "").length * zs.length) ≤ LIM then some (D.str (Txt.join "" zs), Mode.cold) else none
      | none => none) = _
    rw [z1]
    show (if ((zs.map (·.length)).sum + (Str.ofString "").length * zs.length) ≤ LIM then some (D.str (Txt.join "" zs), Mode.cold) else none) = _
    have e0 : (Str.ofString "").length = 0 := by decide
    rw [sum_ones z3, e0, if_pos (by unfold LIM; omega)]
  refine ⟨Txt.join "" zs, P3, ?_, ?_, ?_, by omega, by omega, b4.trans (b2.trans b1)⟩
  · have hset : exec C (.set 1 (.bin .add (.cst (.int 1)) (.call 1 (.cons (.var 0) (.cons (.ife (.cmp .eq (.call 1 (.cons (.var 0) (.cons (.cst (.int 3)) .nil))) (.cst (.int 0))) (.cst (.int 8)) (.cst (.int 3))) .nil))))) [.cold .pur, .no, .no] (some P) = some (.next (wρ q) (some P2)) := by
      rcases hm with ⟨hr, rfl⟩ | ⟨hr, rfl⟩
      · have hd : decide (r = 0) = true := decide_eq_true hr
        simp only [exec, evalE, evalEs, obnd, bnd, bndL, rok, rbl, rget, List.getElem?_cons_zero, List.getElem?_cons_succ, h1, reO, cmp_eqI, truth, hd, h2, pb_add, slotOf, List.set, wρ]
      · have hd : decide (r = 0) = false := decide_eq_false hr
        simp only [exec, evalE, evalEs, obnd, bnd, bndL, rok, rbl, rget, List.getElem?_cons_zero, List.getElem?_cons_succ, h1, reO, cmp_eqI, truth, hd, h2, pb_add, slotOf, List.set, wρ]
    have hret : exec C (.ret (.bm1 .join (.cst (.str "")) (.lc (.one 2) (.rng (.var 1)) (.sub (.cst (.str "abcdefghijklmnopqrstuvwxyz")) (.call 1 (.cons (.var 0) (.cons (.cst (.int 26)) .nil))))))) (wρ q) (some P2) = some (.ret (.str (Txt.join "" zs)) .cold (some P3)) := by
      have e1 : evalE C (.bm1 .join (.cst (.str "")) (.lc (.one 2) (.rng (.var 1)) (.sub (.cst (.str "abcdefghijklmnopqrstuvwxyz")) (.call 1 (.cons (.var 0) (.cons (.cst (.int 26)) .nil)))))) (wρ q) (some P2) = some (.ok (.str (Txt.join "" zs)) .cold (some P3)) := by
        rw [evalE]
        show bnd (evalE C (.lc (.one 2) (.rng (.var 1)) (.sub (.cst (.str "abcdefghijklmnopqrstuvwxyz")) (.call 1 (.cons (.var 0) (.cons (.cst (.int 26)) .nil))))) (wρ q) (some P2)) (fun y _ P => rok (bm1D .join (.str "") y) P) = _
        rw [hlc]
        show rok (bm1D .join (.str "") (.lst ds)) (some P3) = _
        rw [hj]
        rfl
      rw [exec, e1]
      rfl
    show (match execs C irWord.body [.cold .pur, .no, .no] (some P) with
      | some (.next _ P) => some (R.ok .non .cold P)
      | some (.ret d m P) => some (.ok d m P)
      | some (.exc c o d P) => some (.exc c (if irWord.fix then match o with
        | some i => if i < irWord.np then some i else none
        | none => none else none) d P)
      | none => none) = _
    have hb : execs C irWord.body [.cold .pur, .no, .no] (some P) = some (.ret (.str (Txt.join "" zs)) .cold (some P3)) := by
      show execs C (.cons _ (.cons _ .nil)) _ _ = _
      rw [execs, hset]
      show execs C (.cons _ .nil) (wρ q) (some P2) = _
      rw [execs, hret]
    rw [hb]
  · have e := PySem.W.KT.join_ones zs z3
    show (Txt.join (Str.ofString "") zs).length ≤ 8
    rw [e]
    omega
  · show Sm (Builtin.Str.glued (Str.ofString "") zs)
    rw [StrLaws.glued_eq_join]
    exact sm_join (fun c h => by rw [show (Str.ofString "").cps.toList = [] by decide] at h; cases h) z4
end B


namespace B
open PySem PySem.Spec L2
def top (i : Nat) : Stmt := PySem.Challenge.pw_logcores_k01_errors_made.main.body.getD i (.Pass ⟨0, 0, 0, 0⟩)
def enm : List Str := (["InvalidKind", "InvalidTable", "InvalidKinds", "InvalidPairs", "InvalidWord", "InvalidRule", "InvalidMap", "InvalidNames", "InvalidBook", "InvalidName", "InvalidLog", "InvalidLogs", "InvalidMerging", "InvalidStrike", "InvalidRoad", "InvalidPlaces", "InvalidCount", "InvalidFuture", "InvalidValue", "InvalidStore", "InvalidInputs", "InvalidFolding", "InvalidJournal", "InvalidSpot", "InvalidScript", "InvalidText", "InvalidRecord", "Unlike", "Apart", "Unsettled"] : List Str) ++ (["Boundless", "Refused"] : List Str)
def znm : List Str := ["NothingToUndo", "NothingToRedo", "CoreError"]
def isl : List (Str × List Nat × List Nat) := ([("InvalidKind", [0], []), ("InvalidTable", [1], []), ("InvalidKinds", [2], []), ("InvalidPairs", [3], []), ("InvalidWord", [4], []), ("InvalidRule", [5], []), ("InvalidMap", [6], []), ("InvalidNames", [7], []), ("InvalidBook", [8], []), ("InvalidName", [9], []), ("InvalidLog", [10], []), ("InvalidLogs", [11], []), ("InvalidMerging", [12], []), ("InvalidStrike", [13], []), ("InvalidRoad", [14], []), ("InvalidPlaces", [15], []), ("InvalidCount", [16], []), ("InvalidFuture", [17], []), ("InvalidValue", [18], []), ("InvalidStore", [19], []), ("InvalidInputs", [20], []), ("InvalidFolding", [21], []), ("InvalidJournal", [22], []), ("InvalidSpot", [23], []), ("InvalidScript", [24], []), ("InvalidText", [25], []), ("InvalidRecord", [26], []), ("Unlike", [27], []), ("Apart", [28], []), ("Unsettled", [29], [])] : List (Str × List Nat × List Nat)) ++ ([("Boundless", [30], []), ("Refused", [31], []), ("NothingToUndo", [], [0]), ("NothingToRedo", [], [1]), ("CoreError", [0, 1, 2, 3, 4, 5, 6, 7, 8, 9, 10, 11, 12, 13, 14, 15, 16, 17, 18, 19, 20, 21, 22, 23, 24, 25, 26, 27, 28, 29, 30, 31], [0, 1, 2]), ("ValueError", [0, 1, 2, 3, 4, 5, 6, 7, 8, 9, 10, 11, 12, 13, 14, 15, 16, 17, 18, 19, 20, 21, 22, 23, 24, 25, 26, 27, 28, 29, 30, 31], [0, 1, 2])] : List (Str × List Nat × List Nat))
structure Blt (mg : Str → Option Value) : Prop where
  all : mg "all" = none
  dict : mg "dict" = none
  int : mg "int" = none
  isinstance : mg "isinstance" = none
  len : mg "len" = none
  list : mg "list" = none
  max : mg "max" = none
  min : mg "min" = none
  range : mg "range" = none
  repr : mg "repr" = none
  sum : mg "sum" = none
  tuple : mg "tuple" = none
abbrev stP : Stmt := top 37
abbrev stPs : Stmt := top 40
def tb0 : Tb := ⟨0, fun _ => 0, fun _ => [], fun _ => 0, .non, 0, fun _ => 0, 0, fun _ => 0⟩
theorem ok_purse {P : Program} {w : World} {K : PySem.W.Frag} {mg : Str → Option Value} {base : Heap} {f : Addr} {fd : FuncData} (bl : Blt mg) (F : Fun K "_law_purse" "_law_purse" stP f fd) : FnG P w K mg base (L2.CX P w) 1 f fd ["_law_script", "_law_at"] (spPurse K) := by
  have S : FnScope ["_law_script", "_law_at", "_law_seed"] ["_law_script", "_law_at"] (defScope stP) := ⟨rfl, rfl, rfl, by decide +kernel, rfl, by decide +kernel, by decide +kernel⟩
  refine fnG_of F S (fun vs H Q E h => ?_) (fun cdv A outer s H vs Q E hr hgd h => ⟨_, ?_, pure_purse (T := tb0) (C := fun _ _ _ => none) vs H Q h⟩)
  · obtain ⟨a, ns, i, rfl, _⟩ := h
    rfl
  · exact pss_cons (s_seed (ps_set (i := 2) S.nd rfl (locC rfl) (pe_callB (cr_sum rfl) rfl bl.sum (by decide +kernel) (pa_cons (pe_slice sl_list (pe_var rfl (visC rfl)) (po_some (pe_var rfl (visC rfl))) (po_some (pe_op op_add (pe_var rfl (visC rfl)) pe_int))) pa_nil)) rfl (fnC rfl)))
      (s_consS (s_ret (s_lst (s_cons rfl (s_bin (o := .mod) (s_int rfl bl.int (s_max rfl rfl bl.max (s_bin (o := .sub) (s_var rfl (visC rfl) (by decide) (by decide)) (s_bin (o := .pow) s_cint s_cint)) s_cint rfl rfl) rfl) (s_bin (o := .pow) (s_bin (o := .pow) s_cint s_cint) s_cint)) (s_cons rfl (s_bin (o := .mod) (s_int rfl bl.int (s_var rfl (visC rfl) (by decide) (by decide)) rfl) s_cint) (s_cons rfl s_cint (s_consV rfl (visC rfl) (by decide) (by decide) s_nil rfl) rfl) rfl) rfl)) rfl) s_nilS)
theorem ok_purses {P : Program} {w : World} {K : PySem.W.Frag} {mg : Str → Option Value} {base : Heap} {f f' : Addr} {fd fd' : FuncData} (bl : Blt mg) (F : Fun K "_law_purse" "_law_purse" stP f fd) (gl : mg "_law_purse" = some (.ref f)) (F' : Fun K "_law_purses" "_law_purses" stPs f' fd') : FnG P w K mg base (L2.CX P w) 2 f' fd' ["_law_script", "_law_few"] (spPurses K) := by
  have S : FnScope ["_law_script", "_law_few", "_law_at"] ["_law_script", "_law_few"] (defScope stPs) := ⟨rfl, rfl, rfl, by decide +kernel, rfl, by decide +kernel, by decide +kernel⟩
  have G := ok_purse (P := P) (w := w) (base := base) bl F
  have b : Binds K fd ["_law_script", "_law_at"] [] := F.binds fun _ _ _ _ _ _ us hl => match us, hl with | [_, _], _ => rfl
  refine fnG_of F' S (fun vs H Q E h => ?_) (fun cdv A outer s H vs Q E hr hgd h => ⟨t_purses K, ?_, pure_purses vs H Q h⟩)
  · obtain ⟨a, ns, i, rfl, _⟩ := h
    rfl
  · exact pss_one (ps_ret (pe_lc (own := [("_law_at", 2)]) rfl S.nd (pi_range1 rfl bl.range (pa_cons (pe_callB (call_max2 rfl) rfl bl.max (by decide +kernel) (pa_cons pe_int (pa_cons (pe_callB (call_min2 rfl) rfl bl.min (by decide +kernel) (pa_cons (pe_var rfl (visC rfl)) (pa_cons (pe_callB call_lenB rfl bl.len (by decide +kernel) (pa_cons (pe_var rfl (visC rfl)) pa_nil)) pa_nil))) pa_nil))) pa_nil)) (blkOk_by rfl)
      (fun _ _ _ _ _ => pg_name S.nd rfl (locC rfl) (fnC rfl)) (fun _ _ _ _ _ => pts_nil) (fun _ _ _ _ _ => peG_call G hr hgd rfl gl F.kp b passes_blk (pa_cons (pe_var rfl (visC rfl)) (pa_cons (pe_var rfl (visC rfl)) pa_nil)) (by decide) rfl rfl)))
abbrev st0 : Stmt := top 38
def ir0 : Fd := { np := 3, ns := 4, fix := true, body := (.cons (.set 3 (.bin .add (.bin .mul (.var 0) (.cst (.int 69069))) (.bin .mul (.bin .mul (.cst (.int 104729)) (.var 1)) (.var 1)))) (.cons (.set 3 (.bin .mod (.bi .int (.bin .add (.bin .add (.var 3) (.bin .mul (.cst (.int 7919)) (.var 2))) (.var 1))) (.cst (.int 2147483647)))) (.cons (.set 3 (.bin .mod (.bi .int (.bin .add (.bin .mul (.var 3) (.var 3)) (.cst (.int 40503)))) (.cst (.int 2147483629)))) (.cons (.ret (.bin .mod (.bi .int (.bin .mul (.var 3) (.cst (.int 48271)))) (.cst (.int 2147483587)))) .nil)))) }
theorem sc0 : FnScope ["_law_seed", "_law_turn", "_law_at", "_law_mixed_here"] ["_law_seed", "_law_turn", "_law_at"] (defScope st0) := ⟨rfl, rfl, rfl, by decide +kernel, rfl, by decide +kernel, by decide +kernel⟩
theorem pb0 {P : Program} {w : World} {K : PySem.W.Frag} {mg : Str → Option Value} {base : Heap} {T : Tb} {k : Nat} {C : Calls} (bl : Blt mg) (cdv : Value) (A : Around) (outer : List Env) (s : Shared) (H : Hp) (E : XK)
    (hr : Room k (A.deeper (PyProof.Rows.envOfC "_law_mixed" (defScope st0) s.heap.objs.size (T.fad 0) cdv))) (hgd : A.guards = some []) :
    PSs (cxOf (L2.CX P w) P w K mg base ["_law_seed", "_law_turn", "_law_at", "_law_mixed_here"] "_law_mixed" (defScope st0) (T.fad 0) cdv A outer s H E) (defBody st0) (tSs T K (WE E) C 3 ir0.body) := by
  have S := sc0
  have tk : Takes (cxOf (L2.CX P w) P w K mg base ["_law_seed", "_law_turn", "_law_at", "_law_mixed_here"] "_law_mixed" (defScope st0) (T.fad 0) cdv A outer s H E) (WE E) := takes_of rfl rfl rfl rfl
  have hx := passes_of_takes tk
  exact (s_consS (s_set (ps_set (i := 3) S.nd rfl (locC rfl) (s_bin (o := .add) (s_bin (o := .mul) (s_var rfl (visC rfl) (by decide) (by decide)) s_cint) (s_bin (o := .mul) (s_bin (o := .mul) s_cint (s_var rfl (visC rfl) (by decide) (by decide))) (s_var rfl (visC rfl) (by decide) (by decide)))) rfl (fnC rfl)) (fun _ _ _ h => h) (by decide))
    (s_consS (s_set (ps_set (i := 3) S.nd rfl (locC rfl) (s_bin (o := .mod) (s_int rfl bl.int (s_bin (o := .add) (s_bin (o := .add) (s_var rfl (visC rfl) (by decide) (by decide)) (s_bin (o := .mul) s_cint (s_var rfl (visC rfl) (by decide) (by decide)))) (s_var rfl (visC rfl) (by decide) (by decide))) rfl) s_cint) rfl (fnC rfl)) (fun _ _ _ h => h) (by decide))
    (s_consS (s_set (ps_set (i := 3) S.nd rfl (locC rfl) (s_bin (o := .mod) (s_int rfl bl.int (s_bin (o := .add) (s_bin (o := .mul) (s_var rfl (visC rfl) (by decide) (by decide)) (s_var rfl (visC rfl) (by decide) (by decide))) s_cint) rfl) s_cint) rfl (fnC rfl)) (fun _ _ _ h => h) (by decide))
    (s_consS (s_ret (s_bin (o := .mod) (s_int rfl bl.int (s_bin (o := .mul) (s_var rfl (visC rfl) (by decide) (by decide)) s_cint) rfl) s_cint) rfl)
    s_nilS))))
abbrev st1 : Stmt := top 39
def ir1 : Fd := { np := 2, ns := 5, fix := true, body := (.cons (.ife (.cmp .gt (.sub (.var 0) (.cst (.int 0))) (.cst (.int 0))) (.cons (.set 4 (.bin .mod (.bi .int (.sub (.var 0) (.cst (.int 0)))) (.var 1))) (.cons (.ppu 0 0 (.bin .fdv (.sub (.var 0) (.cst (.int 0))) (.var 1))) (.cons (.ret (.var 4)) .nil))) .nil) (.cons (.set 2 (.cst (.int 0))) (.cons (.forr (.one 3) (.rng (.bin .add (.cst (.int 1)) (.bin .fdv (.bm .bitlen (.var 1)) (.cst (.int 28))))) (.cons (.ppu 0 2 (.bin .add (.sub (.var 0) (.cst (.int 2))) (.cst (.int 1)))) (.cons (.set 2 (.bin .add (.bin .mul (.var 2) (.cst (.int 2147483587))) (.call 0 (.cons (.sub (.var 0) (.cst (.int 1))) (.cons (.sub (.var 0) (.cst (.int 2))) (.cons (.sub (.var 0) (.cst (.int 3))) .nil)))))) .nil))) (.cons (.ret (.bin .mod (.bi .int (.var 2)) (.var 1))) .nil)))) }
theorem sc1 : FnScope ["_law_purse_here", "_law_many", "_law_found", "_law_piece", "_law_drawn"] ["_law_purse_here", "_law_many"] (defScope st1) := ⟨rfl, rfl, rfl, by decide +kernel, rfl, by decide +kernel, by decide +kernel⟩
theorem pb1 {P : Program} {w : World} {K : PySem.W.Frag} {mg : Str → Option Value} {base : Heap} {T : Tb} {k : Nat} {C : Calls} (bl : Blt mg) (c0 : CalB P w K mg base T k C 0 "_law_mixed" 3) (cdv : Value) (A : Around) (outer : List Env) (s : Shared) (H : Hp) (E : XK)
    (hr : Room k (A.deeper (PyProof.Rows.envOfC "_law_draw" (defScope st1) s.heap.objs.size (T.fad 1) cdv))) (hgd : A.guards = some []) :
    PSs (cxOf (L2.CX P w) P w K mg base ["_law_purse_here", "_law_many", "_law_found", "_law_piece", "_law_drawn"] "_law_draw" (defScope st1) (T.fad 1) cdv A outer s H E) (defBody st1) (tSs T K (WE E) C 2 ir1.body) := by
  have S := sc1
  have tk : Takes (cxOf (L2.CX P w) P w K mg base ["_law_purse_here", "_law_many", "_law_found", "_law_piece", "_law_drawn"] "_law_draw" (defScope st1) (T.fad 1) cdv A outer s H E) (WE E) := takes_of rfl rfl rfl rfl
  have hx := passes_of_takes tk
  exact (s_consS (s_if (Snd.pt (s_cmp (o := .gt) hr.units (s_sub hr.units (s_var rfl (visC rfl) (by decide) (by decide)) s_cint (fun _ _ => rfl)) s_cint rfl)) (s_consS (s_set (ps_set (i := 4) S.nd rfl (locC rfl) (s_bin (o := .mod) (s_int rfl bl.int (s_sub hr.units (s_var rfl (visC rfl) (by decide) (by decide)) s_cint (fun _ _ => rfl)) rfl) (s_var rfl (visC rfl) (by decide) (by decide))) rfl (fnC rfl)) (fun _ _ _ h => h) (by decide))
    (s_consS (s_ppu rfl (visC rfl) (by decide) (by decide) (s_bin (o := .fdv) (s_sub hr.units (s_var rfl (visC rfl) (by decide) (by decide)) s_cint (fun _ _ => rfl)) (s_var rfl (visC rfl) (by decide) (by decide))) rfl rfl rfl)
    (s_consS (s_retV rfl (visC rfl) (by decide) (by decide))
    s_nilS))) s_nilS)
    (s_consS (s_set (ps_set (i := 2) S.nd rfl (locC rfl) s_cint rfl (fnC rfl)) (fun _ _ _ h => h) (by decide))
    (s_consS (s_for (passes_of rfl) rfl (s_rngF rfl bl.range (s_bin (o := .add) s_cint (s_bin (o := .fdv) (s_bits (s_var rfl (visC rfl) (by decide) (by decide)) rfl rfl) s_cint)) rfl) (s_tone S.nd rfl (locC rfl) (fnC rfl)) (s_consS (s_ppu rfl (visC rfl) (by decide) (by decide) (s_bin (o := .add) (s_sub hr.units (s_var rfl (visC rfl) (by decide) (by decide)) s_cint (fun _ _ => rfl)) s_cint) rfl rfl rfl)
    (s_consS (s_set (ps_set (i := 2) S.nd rfl (locC rfl) (s_bin (o := .add) (s_bin (o := .mul) (s_var rfl (visC rfl) (by decide) (by decide)) s_cint) (c0.pe hr hgd rfl hx (s_cons rfl (s_sub hr.units (s_var rfl (visC rfl) (by decide) (by decide)) s_cint (fun _ _ => rfl)) (s_cons rfl (s_sub hr.units (s_var rfl (visC rfl) (by decide) (by decide)) s_cint (fun _ _ => rfl)) (s_cons rfl (s_sub hr.units (s_var rfl (visC rfl) (by decide) (by decide)) s_cint (fun _ _ => rfl)) s_nil rfl) rfl) rfl) rfl (by decide) rfl rfl)) rfl (fnC rfl)) (fun _ _ _ h => h) (by decide))
    s_nilS)) (by decide) (fun _ => rfl))
    (s_consS (s_ret (s_bin (o := .mod) (s_int rfl bl.int (s_var rfl (visC rfl) (by decide) (by decide)) rfl) (s_var rfl (visC rfl) (by decide) (by decide))) rfl)
    s_nilS))))
abbrev st2 : Stmt := top 41
def ir2 : Fd := { np := 2, ns := 2, fix := true, body := (.cons (.ret (.sub (.var 1) (.call 1 (.cons (.var 0) (.cons (.bi .len (.var 1)) .nil))))) .nil) }
theorem sc2 : FnScope ["_law_purse_here", "_law_some"] ["_law_purse_here", "_law_some"] (defScope st2) := ⟨rfl, rfl, rfl, by decide +kernel, rfl, by decide +kernel, by decide +kernel⟩
theorem pb2 {P : Program} {w : World} {K : PySem.W.Frag} {mg : Str → Option Value} {base : Heap} {T : Tb} {k : Nat} {C : Calls} (bl : Blt mg) (c1 : CalB P w K mg base T k C 1 "_law_draw" 2) (cdv : Value) (A : Around) (outer : List Env) (s : Shared) (H : Hp) (E : XK)
    (hr : Room k (A.deeper (PyProof.Rows.envOfC "_law_one_of" (defScope st2) s.heap.objs.size (T.fad 2) cdv))) (hgd : A.guards = some []) :
    PSs (cxOf (L2.CX P w) P w K mg base ["_law_purse_here", "_law_some"] "_law_one_of" (defScope st2) (T.fad 2) cdv A outer s H E) (defBody st2) (tSs T K (WE E) C 2 ir2.body) := by
  have S := sc2
  have tk : Takes (cxOf (L2.CX P w) P w K mg base ["_law_purse_here", "_law_some"] "_law_one_of" (defScope st2) (T.fad 2) cdv A outer s H E) (WE E) := takes_of rfl rfl rfl rfl
  have hx := passes_of_takes tk
  exact (s_consS (s_ret (s_sub hr.units (s_var rfl (visC rfl) (by decide) (by decide)) (c1.pe hr hgd rfl hx (s_consV rfl (visC rfl) (by decide) (by decide) (s_cons rfl (s_len rfl bl.len (s_var rfl (visC rfl) (by decide) (by decide)) rfl) s_nil rfl) rfl) rfl (by decide) rfl rfl) (fun _ _ => rfl)) rfl)
    s_nilS)
abbrev st3 : Stmt := top 42
def ir3 : Fd := { np := 1, ns := 3, fix := true, body := (.cons (.set 1 (.bin .add (.cst (.int 1)) (.call 1 (.cons (.var 0) (.cons (.ife (.cmp .eq (.call 1 (.cons (.var 0) (.cons (.cst (.int 3)) .nil))) (.cst (.int 0))) (.cst (.int 8)) (.cst (.int 3))) .nil))))) (.cons (.ret (.bm1 .join (.cst (.str "")) (.lc (.one 2) (.rng (.var 1)) (.sub (.cst (.str "abcdefghijklmnopqrstuvwxyz")) (.call 1 (.cons (.var 0) (.cons (.cst (.int 26)) .nil))))))) .nil)) }
theorem sc3 : FnScope ["_law_purse_here", "_law_size", "_law_turn"] ["_law_purse_here"] (defScope st3) := ⟨rfl, rfl, rfl, by decide +kernel, rfl, by decide +kernel, by decide +kernel⟩
theorem pb3 {P : Program} {w : World} {K : PySem.W.Frag} {mg : Str → Option Value} {base : Heap} {T : Tb} {k : Nat} {C : Calls} (bl : Blt mg) (c1 : CalB P w K mg base T k C 1 "_law_draw" 2) (cdv : Value) (A : Around) (outer : List Env) (s : Shared) (H : Hp) (E : XK)
    (hr : Room k (A.deeper (PyProof.Rows.envOfC "_law_word" (defScope st3) s.heap.objs.size (T.fad 3) cdv))) (hgd : A.guards = some []) :
    PSs (cxOf (L2.CX P w) P w K mg base ["_law_purse_here", "_law_size", "_law_turn"] "_law_word" (defScope st3) (T.fad 3) cdv A outer s H E) (defBody st3) (tSs T K (WE E) C 1 ir3.body) := by
  have S := sc3
  have tk : Takes (cxOf (L2.CX P w) P w K mg base ["_law_purse_here", "_law_size", "_law_turn"] "_law_word" (defScope st3) (T.fad 3) cdv A outer s H E) (WE E) := takes_of rfl rfl rfl rfl
  have hx := passes_of_takes tk
  exact (s_consS (s_set (ps_set (i := 1) S.nd rfl (locC rfl) (s_bin (o := .add) s_cint (c1.pe hr hgd rfl hx (s_consV rfl (visC rfl) (by decide) (by decide) (s_cons rfl (s_ife (s_cmp (o := .eq) hr.units (c1.pe hr hgd rfl hx (s_consV rfl (visC rfl) (by decide) (by decide) (s_cons rfl s_cint s_nil rfl) rfl) rfl (by decide) rfl rfl) s_cint rfl) s_cint s_cint) s_nil rfl) rfl) rfl (by decide) rfl rfl)) rfl (fnC rfl)) (fun _ _ _ h => h) (by decide))
    (s_consS (s_ret (s_join s_cstr (s_lc (own := [("_law_turn", 2)]) (WB := WE fun _ _ _ => False) rfl S.nd (s_rng rfl bl.range (s_var rfl (visC rfl) (by decide) (by decide)) rfl) (blkOk_by rfl) rfl (fun _ _ _ _ _ => (s_tone S.nd rfl (locC rfl) (fnC rfl))) (fun _ _ _ _ _ => (s_sub hr.units s_cstr (c1.pe hr hgd rfl passes_blk (s_consV rfl (visC rfl) (by decide) (by decide) (s_cons rfl s_cint s_nil rfl) rfl) rfl (by decide) rfl rfl) (fun _ _ => rfl))) (fun _ => rfl)) rfl rfl rfl) rfl)
    s_nilS))
abbrev st4 : Stmt := top 43
def ir4 : Fd := { np := 1, ns := 2, fix := true, body := (.cons (.set 1 (.lst (.cons (.mke 0 (.var 0)) (.cons (.mke 1 (.var 0)) (.cons (.mke 2 (.var 0)) (.cons (.mke 3 (.var 0)) .nil)))))) (.cons (.set 1 (.bin .add (.var 1) (.lst (.cons (.mke 4 (.var 0)) (.cons (.mke 5 (.var 0)) (.cons (.mke 6 (.var 0)) (.cons (.mke 7 (.var 0)) .nil))))))) (.cons (.set 1 (.bin .add (.var 1) (.lst (.cons (.mke 8 (.var 0)) (.cons (.mke 9 (.var 0)) (.cons (.mke 10 (.var 0)) (.cons (.mke 11 (.var 0)) .nil))))))) (.cons (.set 1 (.bin .add (.var 1) (.lst (.cons (.mke 12 (.var 0)) (.cons (.mke 13 (.var 0)) (.cons (.mke 14 (.var 0)) (.cons (.mke 15 (.var 0)) .nil))))))) (.cons (.set 1 (.bin .add (.var 1) (.lst (.cons (.mke 16 (.var 0)) (.cons (.mke 17 (.var 0)) (.cons (.mke 18 (.var 0)) (.cons (.mke 19 (.var 0)) .nil))))))) (.cons (.set 1 (.bin .add (.var 1) (.lst (.cons (.mke 20 (.var 0)) (.cons (.mke 21 (.var 0)) (.cons (.mke 22 (.var 0)) (.cons (.mke 23 (.var 0)) .nil))))))) (.cons (.set 1 (.bin .add (.var 1) (.lst (.cons (.mke 24 (.var 0)) (.cons (.mke 25 (.var 0)) (.cons (.mke 26 (.var 0)) (.cons (.mke 27 (.var 0)) (.cons (.mke 28 (.var 0)) .nil)))))))) (.cons (.set 1 (.bin .add (.var 1) (.lst (.cons (.mke 29 (.var 0)) (.cons (.mke 30 (.var 0)) (.cons (.mke 31 (.var 0)) .nil)))))) (.cons (.ret (.var 1)) .nil))))))))) }
theorem sc4 : FnScope ["_law_thing", "_law_found"] ["_law_thing"] (defScope st4) := ⟨rfl, rfl, rfl, by decide +kernel, rfl, by decide +kernel, by decide +kernel⟩
theorem pb4 {P : Program} {w : World} {K : PySem.W.Frag} {mg : Str → Option Value} {base : Heap} {T : Tb} {k : Nat} {C : Calls} (bl : Blt mg) (et : ErrT P w K mg T enm) (cdv : Value) (A : Around) (outer : List Env) (s : Shared) (H : Hp) (E : XK)
    (hr : Room k (A.deeper (PyProof.Rows.envOfC "_law_first" (defScope st4) s.heap.objs.size (T.fad 4) cdv))) (hgd : A.guards = some []) :
    PSs (cxOf (L2.CX P w) P w K mg base ["_law_thing", "_law_found"] "_law_first" (defScope st4) (T.fad 4) cdv A outer s H E) (defBody st4) (tSs T K (WE E) C 1 ir4.body) := by
  have S := sc4
  have tk : Takes (cxOf (L2.CX P w) P w K mg base ["_law_thing", "_law_found"] "_law_first" (defScope st4) (T.fad 4) cdv A outer s H E) (WE E) := takes_of rfl rfl rfl rfl
  have hx := passes_of_takes tk
  exact (s_consS (s_set (ps_set (i := 1) S.nd rfl (locC rfl) (s_lst (s_cons rfl (s_mke (c := 0) et hr rfl rfl (s_var rfl (visC rfl) (by decide) (by decide)) rfl (by decide)) (s_cons rfl (s_mke (c := 1) et hr rfl rfl (s_var rfl (visC rfl) (by decide) (by decide)) rfl (by decide)) (s_cons rfl (s_mke (c := 2) et hr rfl rfl (s_var rfl (visC rfl) (by decide) (by decide)) rfl (by decide)) (s_cons rfl (s_mke (c := 3) et hr rfl rfl (s_var rfl (visC rfl) (by decide) (by decide)) rfl (by decide)) s_nil rfl) rfl) rfl) rfl)) rfl (fnC rfl)) (fun _ _ _ h => h) (by decide))
    (s_consS (s_set (ps_set (i := 1) S.nd rfl (locC rfl) (s_bin (o := .add) (s_var rfl (visC rfl) (by decide) (by decide)) (s_lst (s_cons rfl (s_mke (c := 4) et hr rfl rfl (s_var rfl (visC rfl) (by decide) (by decide)) rfl (by decide)) (s_cons rfl (s_mke (c := 5) et hr rfl rfl (s_var rfl (visC rfl) (by decide) (by decide)) rfl (by decide)) (s_cons rfl (s_mke (c := 6) et hr rfl rfl (s_var rfl (visC rfl) (by decide) (by decide)) rfl (by decide)) (s_cons rfl (s_mke (c := 7) et hr rfl rfl (s_var rfl (visC rfl) (by decide) (by decide)) rfl (by decide)) s_nil rfl) rfl) rfl) rfl))) rfl (fnC rfl)) (fun _ _ _ h => h) (by decide))
    (s_consS (s_set (ps_set (i := 1) S.nd rfl (locC rfl) (s_bin (o := .add) (s_var rfl (visC rfl) (by decide) (by decide)) (s_lst (s_cons rfl (s_mke (c := 8) et hr rfl rfl (s_var rfl (visC rfl) (by decide) (by decide)) rfl (by decide)) (s_cons rfl (s_mke (c := 9) et hr rfl rfl (s_var rfl (visC rfl) (by decide) (by decide)) rfl (by decide)) (s_cons rfl (s_mke (c := 10) et hr rfl rfl (s_var rfl (visC rfl) (by decide) (by decide)) rfl (by decide)) (s_cons rfl (s_mke (c := 11) et hr rfl rfl (s_var rfl (visC rfl) (by decide) (by decide)) rfl (by decide)) s_nil rfl) rfl) rfl) rfl))) rfl (fnC rfl)) (fun _ _ _ h => h) (by decide))
    (s_consS (s_set (ps_set (i := 1) S.nd rfl (locC rfl) (s_bin (o := .add) (s_var rfl (visC rfl) (by decide) (by decide)) (s_lst (s_cons rfl (s_mke (c := 12) et hr rfl rfl (s_var rfl (visC rfl) (by decide) (by decide)) rfl (by decide)) (s_cons rfl (s_mke (c := 13) et hr rfl rfl (s_var rfl (visC rfl) (by decide) (by decide)) rfl (by decide)) (s_cons rfl (s_mke (c := 14) et hr rfl rfl (s_var rfl (visC rfl) (by decide) (by decide)) rfl (by decide)) (s_cons rfl (s_mke (c := 15) et hr rfl rfl (s_var rfl (visC rfl) (by decide) (by decide)) rfl (by decide)) s_nil rfl) rfl) rfl) rfl))) rfl (fnC rfl)) (fun _ _ _ h => h) (by decide))
    (s_consS (s_set (ps_set (i := 1) S.nd rfl (locC rfl) (s_bin (o := .add) (s_var rfl (visC rfl) (by decide) (by decide)) (s_lst (s_cons rfl (s_mke (c := 16) et hr rfl rfl (s_var rfl (visC rfl) (by decide) (by decide)) rfl (by decide)) (s_cons rfl (s_mke (c := 17) et hr rfl rfl (s_var rfl (visC rfl) (by decide) (by decide)) rfl (by decide)) (s_cons rfl (s_mke (c := 18) et hr rfl rfl (s_var rfl (visC rfl) (by decide) (by decide)) rfl (by decide)) (s_cons rfl (s_mke (c := 19) et hr rfl rfl (s_var rfl (visC rfl) (by decide) (by decide)) rfl (by decide)) s_nil rfl) rfl) rfl) rfl))) rfl (fnC rfl)) (fun _ _ _ h => h) (by decide))
    (s_consS (s_set (ps_set (i := 1) S.nd rfl (locC rfl) (s_bin (o := .add) (s_var rfl (visC rfl) (by decide) (by decide)) (s_lst (s_cons rfl (s_mke (c := 20) et hr rfl rfl (s_var rfl (visC rfl) (by decide) (by decide)) rfl (by decide)) (s_cons rfl (s_mke (c := 21) et hr rfl rfl (s_var rfl (visC rfl) (by decide) (by decide)) rfl (by decide)) (s_cons rfl (s_mke (c := 22) et hr rfl rfl (s_var rfl (visC rfl) (by decide) (by decide)) rfl (by decide)) (s_cons rfl (s_mke (c := 23) et hr rfl rfl (s_var rfl (visC rfl) (by decide) (by decide)) rfl (by decide)) s_nil rfl) rfl) rfl) rfl))) rfl (fnC rfl)) (fun _ _ _ h => h) (by decide))
    (s_consS (s_set (ps_set (i := 1) S.nd rfl (locC rfl) (s_bin (o := .add) (s_var rfl (visC rfl) (by decide) (by decide)) (s_lst (s_cons rfl (s_mke (c := 24) et hr rfl rfl (s_var rfl (visC rfl) (by decide) (by decide)) rfl (by decide)) (s_cons rfl (s_mke (c := 25) et hr rfl rfl (s_var rfl (visC rfl) (by decide) (by decide)) rfl (by decide)) (s_cons rfl (s_mke (c := 26) et hr rfl rfl (s_var rfl (visC rfl) (by decide) (by decide)) rfl (by decide)) (s_cons rfl (s_mke (c := 27) et hr rfl rfl (s_var rfl (visC rfl) (by decide) (by decide)) rfl (by decide)) (s_cons rfl (s_mke (c := 28) et hr rfl rfl (s_var rfl (visC rfl) (by decide) (by decide)) rfl (by decide)) s_nil rfl) rfl) rfl) rfl) rfl))) rfl (fnC rfl)) (fun _ _ _ h => h) (by decide))
    (s_consS (s_set (ps_set (i := 1) S.nd rfl (locC rfl) (s_bin (o := .add) (s_var rfl (visC rfl) (by decide) (by decide)) (s_lst (s_cons rfl (s_mke (c := 29) et hr rfl rfl (s_var rfl (visC rfl) (by decide) (by decide)) rfl (by decide)) (s_cons rfl (s_mke (c := 30) et hr rfl rfl (s_var rfl (visC rfl) (by decide) (by decide)) rfl (by decide)) (s_cons rfl (s_mke (c := 31) et hr rfl rfl (s_var rfl (visC rfl) (by decide) (by decide)) rfl (by decide)) s_nil rfl) rfl) rfl))) rfl (fnC rfl)) (fun _ _ _ h => h) (by decide))
    (s_consS (s_retV rfl (visC rfl) (by decide) (by decide))
    s_nilS)))))))))
abbrev st5 : Stmt := top 44
def ir5 : Fd := { np := 1, ns := 2, fix := true, body := (.cons (.set 1 (.lst (.cons (.mke 0 (.var 0)) (.cons (.mke 1 (.var 0)) (.cons (.mke 2 (.var 0)) .nil))))) (.cons (.set 1 (.bin .add (.var 1) (.lst (.cons (.mke 3 (.var 0)) (.cons (.mke 4 (.var 0)) (.cons (.mke 5 (.var 0)) .nil)))))) (.cons (.set 1 (.bin .add (.var 1) (.lst (.cons (.mke 6 (.var 0)) (.cons (.mke 7 (.var 0)) (.cons (.mke 8 (.var 0)) .nil)))))) (.cons (.set 1 (.bin .add (.var 1) (.lst (.cons (.mke 9 (.var 0)) (.cons (.mke 10 (.var 0)) (.cons (.mke 11 (.var 0)) .nil)))))) (.cons (.set 1 (.bin .add (.var 1) (.lst (.cons (.mke 12 (.var 0)) (.cons (.mke 13 (.var 0)) (.cons (.mke 14 (.var 0)) .nil)))))) (.cons (.set 1 (.bin .add (.var 1) (.lst (.cons (.mke 15 (.var 0)) (.cons (.mke 16 (.var 0)) (.cons (.mke 17 (.var 0)) .nil)))))) (.cons (.set 1 (.bin .add (.var 1) (.lst (.cons (.mke 18 (.var 0)) (.cons (.mke 19 (.var 0)) (.cons (.mke 20 (.var 0)) .nil)))))) (.cons (.set 1 (.bin .add (.var 1) (.lst (.cons (.mke 21 (.var 0)) (.cons (.mke 22 (.var 0)) (.cons (.mke 23 (.var 0)) .nil)))))) (.cons (.set 1 (.bin .add (.var 1) (.lst (.cons (.mke 24 (.var 0)) (.cons (.mke 25 (.var 0)) (.cons (.mke 26 (.var 0)) .nil)))))) (.cons (.set 1 (.bin .add (.var 1) (.lst (.cons (.mke 27 (.var 0)) (.cons (.mke 28 (.var 0)) (.cons (.mke 29 (.var 0)) (.cons (.mke 30 (.var 0)) .nil))))))) (.cons (.set 1 (.bin .add (.var 1) (.lst (.cons (.mke 31 (.var 0)) .nil)))) (.cons (.ret (.var 1)) .nil)))))))))))) }
theorem sc5 : FnScope ["_law_thing", "_law_found"] ["_law_thing"] (defScope st5) := ⟨rfl, rfl, rfl, by decide +kernel, rfl, by decide +kernel, by decide +kernel⟩
theorem pb5 {P : Program} {w : World} {K : PySem.W.Frag} {mg : Str → Option Value} {base : Heap} {T : Tb} {k : Nat} {C : Calls} (bl : Blt mg) (et : ErrT P w K mg T enm) (cdv : Value) (A : Around) (outer : List Env) (s : Shared) (H : Hp) (E : XK)
    (hr : Room k (A.deeper (PyProof.Rows.envOfC "_law_called" (defScope st5) s.heap.objs.size (T.fad 5) cdv))) (hgd : A.guards = some []) :
    PSs (cxOf (L2.CX P w) P w K mg base ["_law_thing", "_law_found"] "_law_called" (defScope st5) (T.fad 5) cdv A outer s H E) (defBody st5) (tSs T K (WE E) C 1 ir5.body) := by
  have S := sc5
  have tk : Takes (cxOf (L2.CX P w) P w K mg base ["_law_thing", "_law_found"] "_law_called" (defScope st5) (T.fad 5) cdv A outer s H E) (WE E) := takes_of rfl rfl rfl rfl
  have hx := passes_of_takes tk
  exact (s_consS (s_set (ps_set (i := 1) S.nd rfl (locC rfl) (s_lst (s_cons rfl (s_mkk (c := 0) et hr rfl rfl (s_var rfl (visC rfl) (by decide) (by decide)) (by decide) rfl rfl rfl) (s_cons rfl (s_mkk (c := 1) et hr rfl rfl (s_var rfl (visC rfl) (by decide) (by decide)) (by decide) rfl rfl rfl) (s_cons rfl (s_mkk (c := 2) et hr rfl rfl (s_var rfl (visC rfl) (by decide) (by decide)) (by decide) rfl rfl rfl) s_nil rfl) rfl) rfl)) rfl (fnC rfl)) (fun _ _ _ h => h) (by decide))
    (s_consS (s_set (ps_set (i := 1) S.nd rfl (locC rfl) (s_bin (o := .add) (s_var rfl (visC rfl) (by decide) (by decide)) (s_lst (s_cons rfl (s_mkk (c := 3) et hr rfl rfl (s_var rfl (visC rfl) (by decide) (by decide)) (by decide) rfl rfl rfl) (s_cons rfl (s_mkk (c := 4) et hr rfl rfl (s_var rfl (visC rfl) (by decide) (by decide)) (by decide) rfl rfl rfl) (s_cons rfl (s_mkk (c := 5) et hr rfl rfl (s_var rfl (visC rfl) (by decide) (by decide)) (by decide) rfl rfl rfl) s_nil rfl) rfl) rfl))) rfl (fnC rfl)) (fun _ _ _ h => h) (by decide))
    (s_consS (s_set (ps_set (i := 1) S.nd rfl (locC rfl) (s_bin (o := .add) (s_var rfl (visC rfl) (by decide) (by decide)) (s_lst (s_cons rfl (s_mkk (c := 6) et hr rfl rfl (s_var rfl (visC rfl) (by decide) (by decide)) (by decide) rfl rfl rfl) (s_cons rfl (s_mkk (c := 7) et hr rfl rfl (s_var rfl (visC rfl) (by decide) (by decide)) (by decide) rfl rfl rfl) (s_cons rfl (s_mkk (c := 8) et hr rfl rfl (s_var rfl (visC rfl) (by decide) (by decide)) (by decide) rfl rfl rfl) s_nil rfl) rfl) rfl))) rfl (fnC rfl)) (fun _ _ _ h => h) (by decide))
    (s_consS (s_set (ps_set (i := 1) S.nd rfl (locC rfl) (s_bin (o := .add) (s_var rfl (visC rfl) (by decide) (by decide)) (s_lst (s_cons rfl (s_mkk (c := 9) et hr rfl rfl (s_var rfl (visC rfl) (by decide) (by decide)) (by decide) rfl rfl rfl) (s_cons rfl (s_mkk (c := 10) et hr rfl rfl (s_var rfl (visC rfl) (by decide) (by decide)) (by decide) rfl rfl rfl) (s_cons rfl (s_mkk (c := 11) et hr rfl rfl (s_var rfl (visC rfl) (by decide) (by decide)) (by decide) rfl rfl rfl) s_nil rfl) rfl) rfl))) rfl (fnC rfl)) (fun _ _ _ h => h) (by decide))
    (s_consS (s_set (ps_set (i := 1) S.nd rfl (locC rfl) (s_bin (o := .add) (s_var rfl (visC rfl) (by decide) (by decide)) (s_lst (s_cons rfl (s_mkk (c := 12) et hr rfl rfl (s_var rfl (visC rfl) (by decide) (by decide)) (by decide) rfl rfl rfl) (s_cons rfl (s_mkk (c := 13) et hr rfl rfl (s_var rfl (visC rfl) (by decide) (by decide)) (by decide) rfl rfl rfl) (s_cons rfl (s_mkk (c := 14) et hr rfl rfl (s_var rfl (visC rfl) (by decide) (by decide)) (by decide) rfl rfl rfl) s_nil rfl) rfl) rfl))) rfl (fnC rfl)) (fun _ _ _ h => h) (by decide))
    (s_consS (s_set (ps_set (i := 1) S.nd rfl (locC rfl) (s_bin (o := .add) (s_var rfl (visC rfl) (by decide) (by decide)) (s_lst (s_cons rfl (s_mkk (c := 15) et hr rfl rfl (s_var rfl (visC rfl) (by decide) (by decide)) (by decide) rfl rfl rfl) (s_cons rfl (s_mkk (c := 16) et hr rfl rfl (s_var rfl (visC rfl) (by decide) (by decide)) (by decide) rfl rfl rfl) (s_cons rfl (s_mkk (c := 17) et hr rfl rfl (s_var rfl (visC rfl) (by decide) (by decide)) (by decide) rfl rfl rfl) s_nil rfl) rfl) rfl))) rfl (fnC rfl)) (fun _ _ _ h => h) (by decide))
    (s_consS (s_set (ps_set (i := 1) S.nd rfl (locC rfl) (s_bin (o := .add) (s_var rfl (visC rfl) (by decide) (by decide)) (s_lst (s_cons rfl (s_mkk (c := 18) et hr rfl rfl (s_var rfl (visC rfl) (by decide) (by decide)) (by decide) rfl rfl rfl) (s_cons rfl (s_mkk (c := 19) et hr rfl rfl (s_var rfl (visC rfl) (by decide) (by decide)) (by decide) rfl rfl rfl) (s_cons rfl (s_mkk (c := 20) et hr rfl rfl (s_var rfl (visC rfl) (by decide) (by decide)) (by decide) rfl rfl rfl) s_nil rfl) rfl) rfl))) rfl (fnC rfl)) (fun _ _ _ h => h) (by decide))
    (s_consS (s_set (ps_set (i := 1) S.nd rfl (locC rfl) (s_bin (o := .add) (s_var rfl (visC rfl) (by decide) (by decide)) (s_lst (s_cons rfl (s_mkk (c := 21) et hr rfl rfl (s_var rfl (visC rfl) (by decide) (by decide)) (by decide) rfl rfl rfl) (s_cons rfl (s_mkk (c := 22) et hr rfl rfl (s_var rfl (visC rfl) (by decide) (by decide)) (by decide) rfl rfl rfl) (s_cons rfl (s_mkk (c := 23) et hr rfl rfl (s_var rfl (visC rfl) (by decide) (by decide)) (by decide) rfl rfl rfl) s_nil rfl) rfl) rfl))) rfl (fnC rfl)) (fun _ _ _ h => h) (by decide))
    (s_consS (s_set (ps_set (i := 1) S.nd rfl (locC rfl) (s_bin (o := .add) (s_var rfl (visC rfl) (by decide) (by decide)) (s_lst (s_cons rfl (s_mkk (c := 24) et hr rfl rfl (s_var rfl (visC rfl) (by decide) (by decide)) (by decide) rfl rfl rfl) (s_cons rfl (s_mkk (c := 25) et hr rfl rfl (s_var rfl (visC rfl) (by decide) (by decide)) (by decide) rfl rfl rfl) (s_cons rfl (s_mkk (c := 26) et hr rfl rfl (s_var rfl (visC rfl) (by decide) (by decide)) (by decide) rfl rfl rfl) s_nil rfl) rfl) rfl))) rfl (fnC rfl)) (fun _ _ _ h => h) (by decide))
    (s_consS (s_set (ps_set (i := 1) S.nd rfl (locC rfl) (s_bin (o := .add) (s_var rfl (visC rfl) (by decide) (by decide)) (s_lst (s_cons rfl (s_mkk (c := 27) et hr rfl rfl (s_var rfl (visC rfl) (by decide) (by decide)) (by decide) rfl rfl rfl) (s_cons rfl (s_mkk (c := 28) et hr rfl rfl (s_var rfl (visC rfl) (by decide) (by decide)) (by decide) rfl rfl rfl) (s_cons rfl (s_mkk (c := 29) et hr rfl rfl (s_var rfl (visC rfl) (by decide) (by decide)) (by decide) rfl rfl rfl) (s_cons rfl (s_mkk (c := 30) et hr rfl rfl (s_var rfl (visC rfl) (by decide) (by decide)) (by decide) rfl rfl rfl) s_nil rfl) rfl) rfl) rfl))) rfl (fnC rfl)) (fun _ _ _ h => h) (by decide))
    (s_consS (s_set (ps_set (i := 1) S.nd rfl (locC rfl) (s_bin (o := .add) (s_var rfl (visC rfl) (by decide) (by decide)) (s_lst (s_cons rfl (s_mkk (c := 31) et hr rfl rfl (s_var rfl (visC rfl) (by decide) (by decide)) (by decide) rfl rfl rfl) s_nil rfl))) rfl (fnC rfl)) (fun _ _ _ h => h) (by decide))
    (s_consS (s_retV rfl (visC rfl) (by decide) (by decide))
    s_nilS))))))))))))
abbrev st6 : Stmt := top 45
def ir6 : Fd := { np := 0, ns := 1, fix := true, body := (.cons (.set 0 (.lst (.cons (.mke 0 (.cst .non)) (.cons (.mke 1 (.cst .non)) (.cons (.mke 2 (.cst .non)) (.cons (.mke 3 (.cst .non)) (.cons (.mke 4 (.cst .non)) (.cons (.mke 5 (.cst .non)) .nil)))))))) (.cons (.set 0 (.bin .add (.var 0) (.lst (.cons (.mke 6 (.cst .non)) (.cons (.mke 7 (.cst .non)) (.cons (.mke 8 (.cst .non)) (.cons (.mke 9 (.cst .non)) (.cons (.mke 10 (.cst .non)) (.cons (.mke 11 (.cst .non)) .nil))))))))) (.cons (.set 0 (.bin .add (.var 0) (.lst (.cons (.mke 12 (.cst .non)) (.cons (.mke 13 (.cst .non)) (.cons (.mke 14 (.cst .non)) (.cons (.mke 15 (.cst .non)) (.cons (.mke 16 (.cst .non)) .nil)))))))) (.cons (.set 0 (.bin .add (.var 0) (.lst (.cons (.mke 17 (.cst .non)) (.cons (.mke 18 (.cst .non)) (.cons (.mke 19 (.cst .non)) (.cons (.mke 20 (.cst .non)) (.cons (.mke 21 (.cst .non)) .nil)))))))) (.cons (.set 0 (.bin .add (.var 0) (.lst (.cons (.mke 22 (.cst .non)) (.cons (.mke 23 (.cst .non)) (.cons (.mke 24 (.cst .non)) (.cons (.mke 25 (.cst .non)) (.cons (.mke 26 (.cst .non)) (.cons (.mke 27 (.cst .non)) .nil))))))))) (.cons (.set 0 (.bin .add (.var 0) (.lst (.cons (.mke 28 (.cst .non)) (.cons (.mke 29 (.cst .non)) (.cons (.mke 30 (.cst .non)) (.cons (.mke 31 (.cst .non)) .nil))))))) (.cons (.ret (.var 0)) .nil))))))) }
theorem sc6 : FnScope ["_law_found"] [] (defScope st6) := ⟨rfl, rfl, rfl, by decide +kernel, rfl, by decide +kernel, by decide +kernel⟩
theorem pb6 {P : Program} {w : World} {K : PySem.W.Frag} {mg : Str → Option Value} {base : Heap} {T : Tb} {k : Nat} {C : Calls} (bl : Blt mg) (et : ErrT P w K mg T enm) (cdv : Value) (A : Around) (outer : List Env) (s : Shared) (H : Hp) (E : XK)
    (hr : Room k (A.deeper (PyProof.Rows.envOfC "_law_bare" (defScope st6) s.heap.objs.size (T.fad 6) cdv))) (hgd : A.guards = some []) :
    PSs (cxOf (L2.CX P w) P w K mg base ["_law_found"] "_law_bare" (defScope st6) (T.fad 6) cdv A outer s H E) (defBody st6) (tSs T K (WE E) C 0 ir6.body) := by
  have S := sc6
  have tk : Takes (cxOf (L2.CX P w) P w K mg base ["_law_found"] "_law_bare" (defScope st6) (T.fad 6) cdv A outer s H E) (WE E) := takes_of rfl rfl rfl rfl
  have hx := passes_of_takes tk
  exact (s_consS (s_set (ps_set (i := 0) S.nd rfl (locC rfl) (s_lst (s_cons rfl (s_mk0 (c := 0) et hr rfl rfl (by decide)) (s_cons rfl (s_mk0 (c := 1) et hr rfl rfl (by decide)) (s_cons rfl (s_mk0 (c := 2) et hr rfl rfl (by decide)) (s_cons rfl (s_mk0 (c := 3) et hr rfl rfl (by decide)) (s_cons rfl (s_mk0 (c := 4) et hr rfl rfl (by decide)) (s_cons rfl (s_mk0 (c := 5) et hr rfl rfl (by decide)) s_nil rfl) rfl) rfl) rfl) rfl) rfl)) rfl (fnC rfl)) (fun _ _ _ h => h) (by decide))
    (s_consS (s_set (ps_set (i := 0) S.nd rfl (locC rfl) (s_bin (o := .add) (s_var rfl (visC rfl) (by decide) (by decide)) (s_lst (s_cons rfl (s_mk0 (c := 6) et hr rfl rfl (by decide)) (s_cons rfl (s_mk0 (c := 7) et hr rfl rfl (by decide)) (s_cons rfl (s_mk0 (c := 8) et hr rfl rfl (by decide)) (s_cons rfl (s_mk0 (c := 9) et hr rfl rfl (by decide)) (s_cons rfl (s_mk0 (c := 10) et hr rfl rfl (by decide)) (s_cons rfl (s_mk0 (c := 11) et hr rfl rfl (by decide)) s_nil rfl) rfl) rfl) rfl) rfl) rfl))) rfl (fnC rfl)) (fun _ _ _ h => h) (by decide))
    (s_consS (s_set (ps_set (i := 0) S.nd rfl (locC rfl) (s_bin (o := .add) (s_var rfl (visC rfl) (by decide) (by decide)) (s_lst (s_cons rfl (s_mk0 (c := 12) et hr rfl rfl (by decide)) (s_cons rfl (s_mk0 (c := 13) et hr rfl rfl (by decide)) (s_cons rfl (s_mk0 (c := 14) et hr rfl rfl (by decide)) (s_cons rfl (s_mk0 (c := 15) et hr rfl rfl (by decide)) (s_cons rfl (s_mk0 (c := 16) et hr rfl rfl (by decide)) s_nil rfl) rfl) rfl) rfl) rfl))) rfl (fnC rfl)) (fun _ _ _ h => h) (by decide))
    (s_consS (s_set (ps_set (i := 0) S.nd rfl (locC rfl) (s_bin (o := .add) (s_var rfl (visC rfl) (by decide) (by decide)) (s_lst (s_cons rfl (s_mk0 (c := 17) et hr rfl rfl (by decide)) (s_cons rfl (s_mk0 (c := 18) et hr rfl rfl (by decide)) (s_cons rfl (s_mk0 (c := 19) et hr rfl rfl (by decide)) (s_cons rfl (s_mk0 (c := 20) et hr rfl rfl (by decide)) (s_cons rfl (s_mk0 (c := 21) et hr rfl rfl (by decide)) s_nil rfl) rfl) rfl) rfl) rfl))) rfl (fnC rfl)) (fun _ _ _ h => h) (by decide))
    (s_consS (s_set (ps_set (i := 0) S.nd rfl (locC rfl) (s_bin (o := .add) (s_var rfl (visC rfl) (by decide) (by decide)) (s_lst (s_cons rfl (s_mk0 (c := 22) et hr rfl rfl (by decide)) (s_cons rfl (s_mk0 (c := 23) et hr rfl rfl (by decide)) (s_cons rfl (s_mk0 (c := 24) et hr rfl rfl (by decide)) (s_cons rfl (s_mk0 (c := 25) et hr rfl rfl (by decide)) (s_cons rfl (s_mk0 (c := 26) et hr rfl rfl (by decide)) (s_cons rfl (s_mk0 (c := 27) et hr rfl rfl (by decide)) s_nil rfl) rfl) rfl) rfl) rfl) rfl))) rfl (fnC rfl)) (fun _ _ _ h => h) (by decide))
    (s_consS (s_set (ps_set (i := 0) S.nd rfl (locC rfl) (s_bin (o := .add) (s_var rfl (visC rfl) (by decide) (by decide)) (s_lst (s_cons rfl (s_mk0 (c := 28) et hr rfl rfl (by decide)) (s_cons rfl (s_mk0 (c := 29) et hr rfl rfl (by decide)) (s_cons rfl (s_mk0 (c := 30) et hr rfl rfl (by decide)) (s_cons rfl (s_mk0 (c := 31) et hr rfl rfl (by decide)) s_nil rfl) rfl) rfl) rfl))) rfl (fnC rfl)) (fun _ _ _ h => h) (by decide))
    (s_consS (s_retV rfl (visC rfl) (by decide) (by decide))
    s_nilS)))))))
abbrev st7 : Stmt := top 46
def ir7 : Fd := { np := 1, ns := 3, fix := true, body := (.cons (.set 1 (.lst (.cons (.isi (.var 0) (.exc [0] [])) (.cons (.isi (.var 0) (.exc [1] [])) (.cons (.isi (.var 0) (.exc [2] [])) .nil))))) (.cons (.set 1 (.bin .add (.var 1) (.lst (.cons (.isi (.var 0) (.exc [3] [])) (.cons (.isi (.var 0) (.exc [4] [])) .nil))))) (.cons (.set 1 (.bin .add (.var 1) (.lst (.cons (.isi (.var 0) (.exc [5] [])) (.cons (.isi (.var 0) (.exc [6] [])) .nil))))) (.cons (.set 1 (.bin .add (.var 1) (.lst (.cons (.isi (.var 0) (.exc [7] [])) (.cons (.isi (.var 0) (.exc [8] [])) .nil))))) (.cons (.set 1 (.bin .add (.var 1) (.lst (.cons (.isi (.var 0) (.exc [9] [])) (.cons (.isi (.var 0) (.exc [10] [])) .nil))))) (.cons (.set 1 (.bin .add (.var 1) (.lst (.cons (.isi (.var 0) (.exc [11] [])) (.cons (.isi (.var 0) (.exc [12] [])) .nil))))) (.cons (.set 1 (.bin .add (.var 1) (.lst (.cons (.isi (.var 0) (.exc [13] [])) (.cons (.isi (.var 0) (.exc [14] [])) .nil))))) (.cons (.set 1 (.bin .add (.var 1) (.lst (.cons (.isi (.var 0) (.exc [15] [])) (.cons (.isi (.var 0) (.exc [16] [])) .nil))))) (.cons (.set 1 (.bin .add (.var 1) (.lst (.cons (.isi (.var 0) (.exc [17] [])) (.cons (.isi (.var 0) (.exc [18] [])) .nil))))) (.cons (.set 1 (.bin .add (.var 1) (.lst (.cons (.isi (.var 0) (.exc [19] [])) (.cons (.isi (.var 0) (.exc [20] [])) .nil))))) (.cons (.set 1 (.bin .add (.var 1) (.lst (.cons (.isi (.var 0) (.exc [21] [])) (.cons (.isi (.var 0) (.exc [22] [])) .nil))))) (.cons (.set 1 (.bin .add (.var 1) (.lst (.cons (.isi (.var 0) (.exc [23] [])) (.cons (.isi (.var 0) (.exc [24] [])) .nil))))) (.cons (.set 1 (.bin .add (.var 1) (.lst (.cons (.isi (.var 0) (.exc [25] [])) (.cons (.isi (.var 0) (.exc [26] [])) (.cons (.isi (.var 0) (.exc [27] [])) .nil)))))) (.cons (.set 1 (.bin .add (.var 1) (.lst (.cons (.isi (.var 0) (.exc [28] [])) (.cons (.isi (.var 0) (.exc [29] [])) (.cons (.isi (.var 0) (.exc [30] [])) .nil)))))) (.cons (.set 1 (.bin .add (.var 1) (.lst (.cons (.isi (.var 0) (.exc [31] [])) (.cons (.isi (.var 0) (.exc [] [0])) .nil))))) (.cons (.set 1 (.bin .add (.var 1) (.lst (.cons (.isi (.var 0) (.exc [] [1])) .nil)))) (.cons (.ret (.lcif (.one 2) (.rng (.bi .len (.var 1))) (.sub (.var 1) (.var 2)) (.var 2))) .nil))))))))))))))))) }
theorem sc7 : FnScope ["_law_error", "_law_found", "_law_at"] ["_law_error"] (defScope st7) := ⟨rfl, rfl, rfl, by decide +kernel, rfl, by decide +kernel, by decide +kernel⟩
theorem pb7 {P : Program} {w : World} {K : PySem.W.Frag} {mg : Str → Option Value} {base : Heap} {T : Tb} {k : Nat} {C : Calls} (bl : Blt mg) (et : ErrT P w K mg T enm) (ez : ErrZT K mg T znm) (isc : IscT K mg T isl) (cdv : Value) (A : Around) (outer : List Env) (s : Shared) (H : Hp) (E : XK)
    (hr : Room k (A.deeper (PyProof.Rows.envOfC "_law_code" (defScope st7) s.heap.objs.size (T.fad 7) cdv))) (hgd : A.guards = some []) :
    PSs (cxOf (L2.CX P w) P w K mg base ["_law_error", "_law_found", "_law_at"] "_law_code" (defScope st7) (T.fad 7) cdv A outer s H E) (defBody st7) (tSs T K (WE E) C 1 ir7.body) := by
  have S := sc7
  have tk : Takes (cxOf (L2.CX P w) P w K mg base ["_law_error", "_law_found", "_law_at"] "_law_code" (defScope st7) (T.fad 7) cdv A outer s H E) (WE E) := takes_of rfl rfl rfl rfl
  have hx := passes_of_takes tk
  exact (s_consS (s_set (ps_set (i := 1) S.nd rfl (locC rfl) (s_lst (s_cons rfl (s_isx (isc.get 0 rfl) et ez rfl bl.isinstance rfl (s_var rfl (visC rfl) (by decide) (by decide)) rfl rfl (by decide)) (s_cons rfl (s_isx (isc.get 1 rfl) et ez rfl bl.isinstance rfl (s_var rfl (visC rfl) (by decide) (by decide)) rfl rfl (by decide)) (s_cons rfl (s_isx (isc.get 2 rfl) et ez rfl bl.isinstance rfl (s_var rfl (visC rfl) (by decide) (by decide)) rfl rfl (by decide)) s_nil rfl) rfl) rfl)) rfl (fnC rfl)) (fun _ _ _ h => h) (by decide))
    (s_consS (s_set (ps_set (i := 1) S.nd rfl (locC rfl) (s_bin (o := .add) (s_var rfl (visC rfl) (by decide) (by decide)) (s_lst (s_cons rfl (s_isx (isc.get 3 rfl) et ez rfl bl.isinstance rfl (s_var rfl (visC rfl) (by decide) (by decide)) rfl rfl (by decide)) (s_cons rfl (s_isx (isc.get 4 rfl) et ez rfl bl.isinstance rfl (s_var rfl (visC rfl) (by decide) (by decide)) rfl rfl (by decide)) s_nil rfl) rfl))) rfl (fnC rfl)) (fun _ _ _ h => h) (by decide))
    (s_consS (s_set (ps_set (i := 1) S.nd rfl (locC rfl) (s_bin (o := .add) (s_var rfl (visC rfl) (by decide) (by decide)) (s_lst (s_cons rfl (s_isx (isc.get 5 rfl) et ez rfl bl.isinstance rfl (s_var rfl (visC rfl) (by decide) (by decide)) rfl rfl (by decide)) (s_cons rfl (s_isx (isc.get 6 rfl) et ez rfl bl.isinstance rfl (s_var rfl (visC rfl) (by decide) (by decide)) rfl rfl (by decide)) s_nil rfl) rfl))) rfl (fnC rfl)) (fun _ _ _ h => h) (by decide))
    (s_consS (s_set (ps_set (i := 1) S.nd rfl (locC rfl) (s_bin (o := .add) (s_var rfl (visC rfl) (by decide) (by decide)) (s_lst (s_cons rfl (s_isx (isc.get 7 rfl) et ez rfl bl.isinstance rfl (s_var rfl (visC rfl) (by decide) (by decide)) rfl rfl (by decide)) (s_cons rfl (s_isx (isc.get 8 rfl) et ez rfl bl.isinstance rfl (s_var rfl (visC rfl) (by decide) (by decide)) rfl rfl (by decide)) s_nil rfl) rfl))) rfl (fnC rfl)) (fun _ _ _ h => h) (by decide))
    (s_consS (s_set (ps_set (i := 1) S.nd rfl (locC rfl) (s_bin (o := .add) (s_var rfl (visC rfl) (by decide) (by decide)) (s_lst (s_cons rfl (s_isx (isc.get 9 rfl) et ez rfl bl.isinstance rfl (s_var rfl (visC rfl) (by decide) (by decide)) rfl rfl (by decide)) (s_cons rfl (s_isx (isc.get 10 rfl) et ez rfl bl.isinstance rfl (s_var rfl (visC rfl) (by decide) (by decide)) rfl rfl (by decide)) s_nil rfl) rfl))) rfl (fnC rfl)) (fun _ _ _ h => h) (by decide))
    (s_consS (s_set (ps_set (i := 1) S.nd rfl (locC rfl) (s_bin (o := .add) (s_var rfl (visC rfl) (by decide) (by decide)) (s_lst (s_cons rfl (s_isx (isc.get 11 rfl) et ez rfl bl.isinstance rfl (s_var rfl (visC rfl) (by decide) (by decide)) rfl rfl (by decide)) (s_cons rfl (s_isx (isc.get 12 rfl) et ez rfl bl.isinstance rfl (s_var rfl (visC rfl) (by decide) (by decide)) rfl rfl (by decide)) s_nil rfl) rfl))) rfl (fnC rfl)) (fun _ _ _ h => h) (by decide))
    (s_consS (s_set (ps_set (i := 1) S.nd rfl (locC rfl) (s_bin (o := .add) (s_var rfl (visC rfl) (by decide) (by decide)) (s_lst (s_cons rfl (s_isx (isc.get 13 rfl) et ez rfl bl.isinstance rfl (s_var rfl (visC rfl) (by decide) (by decide)) rfl rfl (by decide)) (s_cons rfl (s_isx (isc.get 14 rfl) et ez rfl bl.isinstance rfl (s_var rfl (visC rfl) (by decide) (by decide)) rfl rfl (by decide)) s_nil rfl) rfl))) rfl (fnC rfl)) (fun _ _ _ h => h) (by decide))
    (s_consS (s_set (ps_set (i := 1) S.nd rfl (locC rfl) (s_bin (o := .add) (s_var rfl (visC rfl) (by decide) (by decide)) (s_lst (s_cons rfl (s_isx (isc.get 15 rfl) et ez rfl bl.isinstance rfl (s_var rfl (visC rfl) (by decide) (by decide)) rfl rfl (by decide)) (s_cons rfl (s_isx (isc.get 16 rfl) et ez rfl bl.isinstance rfl (s_var rfl (visC rfl) (by decide) (by decide)) rfl rfl (by decide)) s_nil rfl) rfl))) rfl (fnC rfl)) (fun _ _ _ h => h) (by decide))
    (s_consS (s_set (ps_set (i := 1) S.nd rfl (locC rfl) (s_bin (o := .add) (s_var rfl (visC rfl) (by decide) (by decide)) (s_lst (s_cons rfl (s_isx (isc.get 17 rfl) et ez rfl bl.isinstance rfl (s_var rfl (visC rfl) (by decide) (by decide)) rfl rfl (by decide)) (s_cons rfl (s_isx (isc.get 18 rfl) et ez rfl bl.isinstance rfl (s_var rfl (visC rfl) (by decide) (by decide)) rfl rfl (by decide)) s_nil rfl) rfl))) rfl (fnC rfl)) (fun _ _ _ h => h) (by decide))
    (s_consS (s_set (ps_set (i := 1) S.nd rfl (locC rfl) (s_bin (o := .add) (s_var rfl (visC rfl) (by decide) (by decide)) (s_lst (s_cons rfl (s_isx (isc.get 19 rfl) et ez rfl bl.isinstance rfl (s_var rfl (visC rfl) (by decide) (by decide)) rfl rfl (by decide)) (s_cons rfl (s_isx (isc.get 20 rfl) et ez rfl bl.isinstance rfl (s_var rfl (visC rfl) (by decide) (by decide)) rfl rfl (by decide)) s_nil rfl) rfl))) rfl (fnC rfl)) (fun _ _ _ h => h) (by decide))
    (s_consS (s_set (ps_set (i := 1) S.nd rfl (locC rfl) (s_bin (o := .add) (s_var rfl (visC rfl) (by decide) (by decide)) (s_lst (s_cons rfl (s_isx (isc.get 21 rfl) et ez rfl bl.isinstance rfl (s_var rfl (visC rfl) (by decide) (by decide)) rfl rfl (by decide)) (s_cons rfl (s_isx (isc.get 22 rfl) et ez rfl bl.isinstance rfl (s_var rfl (visC rfl) (by decide) (by decide)) rfl rfl (by decide)) s_nil rfl) rfl))) rfl (fnC rfl)) (fun _ _ _ h => h) (by decide))
    (s_consS (s_set (ps_set (i := 1) S.nd rfl (locC rfl) (s_bin (o := .add) (s_var rfl (visC rfl) (by decide) (by decide)) (s_lst (s_cons rfl (s_isx (isc.get 23 rfl) et ez rfl bl.isinstance rfl (s_var rfl (visC rfl) (by decide) (by decide)) rfl rfl (by decide)) (s_cons rfl (s_isx (isc.get 24 rfl) et ez rfl bl.isinstance rfl (s_var rfl (visC rfl) (by decide) (by decide)) rfl rfl (by decide)) s_nil rfl) rfl))) rfl (fnC rfl)) (fun _ _ _ h => h) (by decide))
    (s_consS (s_set (ps_set (i := 1) S.nd rfl (locC rfl) (s_bin (o := .add) (s_var rfl (visC rfl) (by decide) (by decide)) (s_lst (s_cons rfl (s_isx (isc.get 25 rfl) et ez rfl bl.isinstance rfl (s_var rfl (visC rfl) (by decide) (by decide)) rfl rfl (by decide)) (s_cons rfl (s_isx (isc.get 26 rfl) et ez rfl bl.isinstance rfl (s_var rfl (visC rfl) (by decide) (by decide)) rfl rfl (by decide)) (s_cons rfl (s_isx (isc.get 27 rfl) et ez rfl bl.isinstance rfl (s_var rfl (visC rfl) (by decide) (by decide)) rfl rfl (by decide)) s_nil rfl) rfl) rfl))) rfl (fnC rfl)) (fun _ _ _ h => h) (by decide))
    (s_consS (s_set (ps_set (i := 1) S.nd rfl (locC rfl) (s_bin (o := .add) (s_var rfl (visC rfl) (by decide) (by decide)) (s_lst (s_cons rfl (s_isx (isc.get 28 rfl) et ez rfl bl.isinstance rfl (s_var rfl (visC rfl) (by decide) (by decide)) rfl rfl (by decide)) (s_cons rfl (s_isx (isc.get 29 rfl) et ez rfl bl.isinstance rfl (s_var rfl (visC rfl) (by decide) (by decide)) rfl rfl (by decide)) (s_cons rfl (s_isx (isc.get 30 rfl) et ez rfl bl.isinstance rfl (s_var rfl (visC rfl) (by decide) (by decide)) rfl rfl (by decide)) s_nil rfl) rfl) rfl))) rfl (fnC rfl)) (fun _ _ _ h => h) (by decide))
    (s_consS (s_set (ps_set (i := 1) S.nd rfl (locC rfl) (s_bin (o := .add) (s_var rfl (visC rfl) (by decide) (by decide)) (s_lst (s_cons rfl (s_isx (isc.get 31 rfl) et ez rfl bl.isinstance rfl (s_var rfl (visC rfl) (by decide) (by decide)) rfl rfl (by decide)) (s_cons rfl (s_isx (isc.get 32 rfl) et ez rfl bl.isinstance rfl (s_var rfl (visC rfl) (by decide) (by decide)) rfl rfl (by decide)) s_nil rfl) rfl))) rfl (fnC rfl)) (fun _ _ _ h => h) (by decide))
    (s_consS (s_set (ps_set (i := 1) S.nd rfl (locC rfl) (s_bin (o := .add) (s_var rfl (visC rfl) (by decide) (by decide)) (s_lst (s_cons rfl (s_isx (isc.get 33 rfl) et ez rfl bl.isinstance rfl (s_var rfl (visC rfl) (by decide) (by decide)) rfl rfl (by decide)) s_nil rfl))) rfl (fnC rfl)) (fun _ _ _ h => h) (by decide))
    (s_consS (s_ret (s_lcif (own := [("_law_at", 2)]) (WB := WE fun _ _ _ => False) rfl S.nd (s_rng rfl bl.range (s_len rfl bl.len (s_var rfl (visC rfl) (by decide) (by decide)) rfl) rfl) (blkOk_by rfl) rfl (fun _ _ _ _ _ => (s_tone S.nd rfl (locC rfl) (fnC rfl))) (fun _ _ _ _ _ => (Snd.pt (Snd.of (s_sub hr.units (s_var rfl (visC rfl) (by decide) (by decide)) (s_var rfl (visC rfl) (by decide) (by decide)) (fun _ _ => rfl)) (fun _ => rfl)))) (fun _ _ _ _ _ => (s_var rfl (visC rfl) (by decide) (by decide))) (fun _ => rfl)) rfl)
    s_nilS)))))))))))))))))
abbrev st8 : Stmt := top 47
def ir8 : Fd := { np := 1, ns := 1, fix := true, body := (.cons (.ret (.and (.isi (.var 0) (.exc [0, 1, 2, 3, 4, 5, 6, 7, 8, 9, 10, 11, 12, 13, 14, 15, 16, 17, 18, 19, 20, 21, 22, 23, 24, 25, 26, 27, 28, 29, 30, 31] [0, 1, 2])) (.isi (.var 0) (.exc [0, 1, 2, 3, 4, 5, 6, 7, 8, 9, 10, 11, 12, 13, 14, 15, 16, 17, 18, 19, 20, 21, 22, 23, 24, 25, 26, 27, 28, 29, 30, 31] [0, 1, 2])))) .nil) }
theorem sc8 : FnScope ["_law_error"] ["_law_error"] (defScope st8) := ⟨rfl, rfl, rfl, by decide +kernel, rfl, by decide +kernel, by decide +kernel⟩
theorem pb8 {P : Program} {w : World} {K : PySem.W.Frag} {mg : Str → Option Value} {base : Heap} {T : Tb} {k : Nat} {C : Calls} (bl : Blt mg) (et : ErrT P w K mg T enm) (ez : ErrZT K mg T znm) (isc : IscT K mg T isl) (cdv : Value) (A : Around) (outer : List Env) (s : Shared) (H : Hp) (E : XK)
    (hr : Room k (A.deeper (PyProof.Rows.envOfC "_law_is_error" (defScope st8) s.heap.objs.size (T.fad 8) cdv))) (hgd : A.guards = some []) :
    PSs (cxOf (L2.CX P w) P w K mg base ["_law_error"] "_law_is_error" (defScope st8) (T.fad 8) cdv A outer s H E) (defBody st8) (tSs T K (WE E) C 1 ir8.body) := by
  have S := sc8
  have tk : Takes (cxOf (L2.CX P w) P w K mg base ["_law_error"] "_law_is_error" (defScope st8) (T.fad 8) cdv A outer s H E) (WE E) := takes_of rfl rfl rfl rfl
  have hx := passes_of_takes tk
  exact (s_consS (s_ret (Snd.pe (SndB.snd (s_and (Snd.of (s_isx (isc.get 34 rfl) et ez rfl bl.isinstance rfl (s_var rfl (visC rfl) (by decide) (by decide)) rfl rfl (by decide)) (fun _ => rfl)) (s_and1 (Snd.of (s_isx (isc.get 35 rfl) et ez rfl bl.isinstance rfl (s_var rfl (visC rfl) (by decide) (by decide)) rfl rfl (by decide)) (fun _ => rfl)))))) rfl)
    s_nilS)
abbrev st9 : Stmt := top 48
def ir9 : Fd := { np := 2, ns := 4, fix := true, body := (.cons (.ife (.cmp .ne (.lc (.one 2) (.val (.var 0)) (.call 7 (.cons (.var 2) .nil))) (.lc (.one 3) (.rng (.cst (.int 32))) (.lst (.cons (.var 3) .nil)))) (.cons (.ret (.cst (.bl false))) .nil) .nil) (.cons (.ret (.cmp .eq (.lcif (.one 2) (.val (.var 0)) (.or (.not (.call 8 (.cons (.var 2) .nil))) (.cmp .ne (.bi .repr (.vlu (.var 2))) (.var 1))) (.var 2)) (.lst .nil))) .nil)) }
theorem sc9 : FnScope ["_law_some", "_law_noted", "_law_error", "_law_at"] ["_law_some", "_law_noted"] (defScope st9) := ⟨rfl, rfl, rfl, by decide +kernel, rfl, by decide +kernel, by decide +kernel⟩
theorem pb9 {P : Program} {w : World} {K : PySem.W.Frag} {mg : Str → Option Value} {base : Heap} {T : Tb} {k : Nat} {C : Calls} (bl : Blt mg) (et : ErrT P w K mg T enm) (hsm : ∃ o, K.lookup sysModules = some o ∧ o.cls = .type "dict") (c7 : CalB P w K mg base T k C 7 "_law_code" 1) (c8 : CalB P w K mg base T k C 8 "_law_is_error" 1) (cdv : Value) (A : Around) (outer : List Env) (s : Shared) (H : Hp) (E : XK)
    (hr : Room k (A.deeper (PyProof.Rows.envOfC "_law_right" (defScope st9) s.heap.objs.size (T.fad 9) cdv))) (hgd : A.guards = some []) :
    PSs (cxOf (L2.CX P w) P w K mg base ["_law_some", "_law_noted", "_law_error", "_law_at"] "_law_right" (defScope st9) (T.fad 9) cdv A outer s H E) (defBody st9) (tSs T K (WE E) C 2 ir9.body) := by
  have S := sc9
  have tk : Takes (cxOf (L2.CX P w) P w K mg base ["_law_some", "_law_noted", "_law_error", "_law_at"] "_law_right" (defScope st9) (T.fad 9) cdv A outer s H E) (WE E) := takes_of rfl rfl rfl rfl
  have hx := passes_of_takes tk
  exact (s_consS (s_if (Snd.pt (s_cmp (o := .ne) hr.units (s_lc (own := [("_law_error", 2)]) (WB := WE fun _ _ _ => False) rfl S.nd (s_itval (s_var rfl (visC rfl) (by decide) (by decide))) (blkOk_by rfl) rfl (fun _ _ _ _ _ => (s_tone S.nd rfl (locC rfl) (fnC rfl))) (fun _ _ _ _ _ => (c7.pe hr hgd rfl passes_blk (s_consV rfl (visC rfl) (by decide) (by decide) s_nil rfl) rfl (by decide) rfl rfl)) (fun _ => rfl)) (s_lc (own := [("_law_at", 3)]) (WB := WE fun _ _ _ => False) rfl S.nd (s_rng rfl bl.range s_cint rfl) (blkOk_by rfl) rfl (fun _ _ _ _ _ => (s_tone S.nd rfl (locC rfl) (fnC rfl))) (fun _ _ _ _ _ => (s_lst (s_consV rfl (visC rfl) (by decide) (by decide) s_nil rfl))) (fun _ => rfl)) rfl)) (s_consS (s_ret s_cbl rfl)
    s_nilS) s_nilS)
    (s_consS (s_ret (Snd.pe (s_cmp (o := .eq) hr.units (s_lcif (own := [("_law_error", 2)]) (WB := WE fun _ _ _ => False) rfl S.nd (s_itval (s_var rfl (visC rfl) (by decide) (by decide))) (blkOk_by rfl) rfl (fun _ _ _ _ _ => (s_tone S.nd rfl (locC rfl) (fnC rfl))) (fun _ _ _ _ _ => (Snd.pt (SndB.snd (s_or (s_not (Snd.of (c8.pe hr hgd rfl passes_blk (s_consV rfl (visC rfl) (by decide) (by decide) s_nil rfl) rfl (by decide) rfl rfl) (fun _ => rfl))) (s_or1 (s_cmp (o := .ne) hr.units (s_repr hgd hr.units hsm rfl bl.repr (s_vlu et (s_var rfl (visC rfl) (by decide) (by decide)) rfl) rfl) (s_var rfl (visC rfl) (by decide) (by decide)) rfl)))))) (fun _ _ _ _ _ => (s_var rfl (visC rfl) (by decide) (by decide))) (fun _ => rfl)) (s_lst s_nil) rfl)) rfl)
    s_nilS))
def tab (i : Nat) : Option Fd := match i with
  | 0 => some ir0
  | 1 => some ir1
  | 2 => some ir2
  | 3 => some ir3
  | 4 => some ir4
  | 5 => some ir5
  | 6 => some ir6
  | 7 => some ir7
  | 8 => some ir8
  | 9 => some ir9
  | _ => none
structure Txt (K : PySem.W.Frag) (mg : Str → Option Value) (T : Tb) : Prop where
  f0 : ∃ fd, Fun K "_law_mixed" "_law_mixed" st0 (T.fad 0) fd
  g0 : mg "_law_mixed" = some (.ref (T.fad 0))
  f1 : ∃ fd, Fun K "_law_draw" "_law_draw" st1 (T.fad 1) fd
  g1 : mg "_law_draw" = some (.ref (T.fad 1))
  f2 : ∃ fd, Fun K "_law_one_of" "_law_one_of" st2 (T.fad 2) fd
  g2 : mg "_law_one_of" = some (.ref (T.fad 2))
  f3 : ∃ fd, Fun K "_law_word" "_law_word" st3 (T.fad 3) fd
  g3 : mg "_law_word" = some (.ref (T.fad 3))
  f4 : ∃ fd, Fun K "_law_first" "_law_first" st4 (T.fad 4) fd
  g4 : mg "_law_first" = some (.ref (T.fad 4))
  f5 : ∃ fd, Fun K "_law_called" "_law_called" st5 (T.fad 5) fd
  g5 : mg "_law_called" = some (.ref (T.fad 5))
  f6 : ∃ fd, Fun K "_law_bare" "_law_bare" st6 (T.fad 6) fd
  g6 : mg "_law_bare" = some (.ref (T.fad 6))
  f7 : ∃ fd, Fun K "_law_code" "_law_code" st7 (T.fad 7) fd
  g7 : mg "_law_code" = some (.ref (T.fad 7))
  f8 : ∃ fd, Fun K "_law_is_error" "_law_is_error" st8 (T.fad 8) fd
  g8 : mg "_law_is_error" = some (.ref (T.fad 8))
  f9 : ∃ fd, Fun K "_law_right" "_law_right" st9 (T.fad 9) fd
  g9 : mg "_law_right" = some (.ref (T.fad 9))
structure All (P : Program) (w : World) (K : PySem.W.Frag) (mg : Str → Option Value) (base : Heap) (T : Tb) (k : Nat) : Prop where
  c0 : CalB P w K mg base T k (calls tab k) 0 "_law_mixed" 3
  c1 : CalB P w K mg base T k (calls tab k) 1 "_law_draw" 2
  c2 : CalB P w K mg base T k (calls tab k) 2 "_law_one_of" 2
  c3 : CalB P w K mg base T k (calls tab k) 3 "_law_word" 1
  c4 : CalB P w K mg base T k (calls tab k) 4 "_law_first" 1
  c5 : CalB P w K mg base T k (calls tab k) 5 "_law_called" 1
  c6 : CalB P w K mg base T k (calls tab k) 6 "_law_bare" 0
  c7 : CalB P w K mg base T k (calls tab k) 7 "_law_code" 1
  c8 : CalB P w K mg base T k (calls tab k) 8 "_law_is_error" 1
  c9 : CalB P w K mg base T k (calls tab k) 9 "_law_right" 2
theorem all_ok {P : Program} {w : World} {K : PySem.W.Frag} {mg : Str → Option Value} {base : Heap} {T : Tb} (bl : Blt mg) (tx : Txt K mg T) (et : ErrT P w K mg T enm) (ez : ErrZT K mg T znm) (isc : IscT K mg T isl) (hsm : ∃ o, K.lookup sysModules = some o ∧ o.cls = .type "dict") : ∀ k, All P w K mg base T k
  | 0 => {
    c0 := by obtain ⟨fd, F⟩ := tx.f0; exact cal_zero (ps := ["_law_seed", "_law_turn", "_law_at"]) rfl tx.g0 F.kp (F.binds fun _ _ _ _ _ _ us hl => match us, hl with | [_, _, _], _ => rfl)
    c1 := by obtain ⟨fd, F⟩ := tx.f1; exact cal_zero (ps := ["_law_purse_here", "_law_many"]) rfl tx.g1 F.kp (F.binds fun _ _ _ _ _ _ us hl => match us, hl with | [_, _], _ => rfl)
    c2 := by obtain ⟨fd, F⟩ := tx.f2; exact cal_zero (ps := ["_law_purse_here", "_law_some"]) rfl tx.g2 F.kp (F.binds fun _ _ _ _ _ _ us hl => match us, hl with | [_, _], _ => rfl)
    c3 := by obtain ⟨fd, F⟩ := tx.f3; exact cal_zero (ps := ["_law_purse_here"]) rfl tx.g3 F.kp (F.binds fun _ _ _ _ _ _ us hl => match us, hl with | [_], _ => rfl)
    c4 := by obtain ⟨fd, F⟩ := tx.f4; exact cal_zero (ps := ["_law_thing"]) rfl tx.g4 F.kp (F.binds fun _ _ _ _ _ _ us hl => match us, hl with | [_], _ => rfl)
    c5 := by obtain ⟨fd, F⟩ := tx.f5; exact cal_zero (ps := ["_law_thing"]) rfl tx.g5 F.kp (F.binds fun _ _ _ _ _ _ us hl => match us, hl with | [_], _ => rfl)
    c6 := by obtain ⟨fd, F⟩ := tx.f6; exact cal_zero (ps := []) rfl tx.g6 F.kp (F.binds fun _ _ _ _ _ _ us hl => match us, hl with | [], _ => rfl)
    c7 := by obtain ⟨fd, F⟩ := tx.f7; exact cal_zero (ps := ["_law_error"]) rfl tx.g7 F.kp (F.binds fun _ _ _ _ _ _ us hl => match us, hl with | [_], _ => rfl)
    c8 := by obtain ⟨fd, F⟩ := tx.f8; exact cal_zero (ps := ["_law_error"]) rfl tx.g8 F.kp (F.binds fun _ _ _ _ _ _ us hl => match us, hl with | [_], _ => rfl)
    c9 := by obtain ⟨fd, F⟩ := tx.f9; exact cal_zero (ps := ["_law_some", "_law_noted"]) rfl tx.g9 F.kp (F.binds fun _ _ _ _ _ _ us hl => match us, hl with | [_, _], _ => rfl)
  }
  | k + 1 => have ih := all_ok bl tx et ez isc hsm k
  {
    c0 := by obtain ⟨fd, F⟩ := tx.f0; exact cal_succ (ps := ["_law_seed", "_law_turn", "_law_at"]) rfl tx.g0 F.kp (F.binds fun _ _ _ _ _ _ us hl => match us, hl with | [_, _, _], _ => rfl) (fn_b F sc0 rfl rfl (fun _ _ => rfl) fun cdv A outer s H E hr hgd => pb0 bl cdv A outer s H E hr hgd)
    c1 := by obtain ⟨fd, F⟩ := tx.f1; exact cal_succ (ps := ["_law_purse_here", "_law_many"]) rfl tx.g1 F.kp (F.binds fun _ _ _ _ _ _ us hl => match us, hl with | [_, _], _ => rfl) (fn_b F sc1 rfl rfl (fun _ _ => rfl) fun cdv A outer s H E hr hgd => pb1 bl ih.c0 cdv A outer s H E hr hgd)
    c2 := by obtain ⟨fd, F⟩ := tx.f2; exact cal_succ (ps := ["_law_purse_here", "_law_some"]) rfl tx.g2 F.kp (F.binds fun _ _ _ _ _ _ us hl => match us, hl with | [_, _], _ => rfl) (fn_b F sc2 rfl rfl (fun _ _ => rfl) fun cdv A outer s H E hr hgd => pb2 bl ih.c1 cdv A outer s H E hr hgd)
    c3 := by obtain ⟨fd, F⟩ := tx.f3; exact cal_succ (ps := ["_law_purse_here"]) rfl tx.g3 F.kp (F.binds fun _ _ _ _ _ _ us hl => match us, hl with | [_], _ => rfl) (fn_b F sc3 rfl rfl (fun _ _ => rfl) fun cdv A outer s H E hr hgd => pb3 bl ih.c1 cdv A outer s H E hr hgd)
    c4 := by obtain ⟨fd, F⟩ := tx.f4; exact cal_succ (ps := ["_law_thing"]) rfl tx.g4 F.kp (F.binds fun _ _ _ _ _ _ us hl => match us, hl with | [_], _ => rfl) (fn_b F sc4 rfl rfl (fun _ _ => rfl) fun cdv A outer s H E hr hgd => pb4 bl et cdv A outer s H E hr hgd)
    c5 := by obtain ⟨fd, F⟩ := tx.f5; exact cal_succ (ps := ["_law_thing"]) rfl tx.g5 F.kp (F.binds fun _ _ _ _ _ _ us hl => match us, hl with | [_], _ => rfl) (fn_b F sc5 rfl rfl (fun _ _ => rfl) fun cdv A outer s H E hr hgd => pb5 bl et cdv A outer s H E hr hgd)
    c6 := by obtain ⟨fd, F⟩ := tx.f6; exact cal_succ (ps := []) rfl tx.g6 F.kp (F.binds fun _ _ _ _ _ _ us hl => match us, hl with | [], _ => rfl) (fn_b F sc6 rfl rfl (fun _ _ => rfl) fun cdv A outer s H E hr hgd => pb6 bl et cdv A outer s H E hr hgd)
    c7 := by obtain ⟨fd, F⟩ := tx.f7; exact cal_succ (ps := ["_law_error"]) rfl tx.g7 F.kp (F.binds fun _ _ _ _ _ _ us hl => match us, hl with | [_], _ => rfl) (fn_b F sc7 rfl rfl (fun _ _ => rfl) fun cdv A outer s H E hr hgd => pb7 bl et ez isc cdv A outer s H E hr hgd)
    c8 := by obtain ⟨fd, F⟩ := tx.f8; exact cal_succ (ps := ["_law_error"]) rfl tx.g8 F.kp (F.binds fun _ _ _ _ _ _ us hl => match us, hl with | [_], _ => rfl) (fn_b F sc8 rfl rfl (fun _ _ => rfl) fun cdv A outer s H E hr hgd => pb8 bl et ez isc cdv A outer s H E hr hgd)
    c9 := by obtain ⟨fd, F⟩ := tx.f9; exact cal_succ (ps := ["_law_some", "_law_noted"]) rfl tx.g9 F.kp (F.binds fun _ _ _ _ _ _ us hl => match us, hl with | [_, _], _ => rfl) (fn_b F sc9 rfl rfl (fun _ _ => rfl) fun cdv A outer s H E hr hgd => pb9 bl et hsm ih.c7 ih.c8 cdv A outer s H E hr hgd)
  }
end B


namespace B
open PySem PySem.Spec L2
abbrev stL : Stmt := top 49
def g1 : Ss := (.cons (.set 3 (.call 3 (.cons (.var 1) .nil))) (.cons (.set 4 (.lst (.cons (.cst .non) (.cons (.cst (.bl true)) (.cons (.cst (.bl false)) (.cons (.cst (.int 0)) (.cons (.var 3) (.cons (.neg (.sub (.var 1) (.cst (.int 1)))) (.cons (.tup (.cons (.cst (.str "says")) (.cons (.var 3) (.cons (.cst (.int 1)) (.cons (.cst (.int 2)) .nil))))) (.cons (.tup (.cons (.var 3) (.cons (.lst (.cons (.var 3) .nil)) .nil))) (.cons (.dsp (.cons (.var 3) (.cons (.lst (.cons (.var 3) .nil)) .nil))) .nil))))))))))) (.cons (.set 5 (.call 2 (.cons (.var 1) (.cons (.bin .add (.var 4) (.lst (.cons (.lst (.cons (.var 3) .nil)) (.cons (.lst (.cons (.lst (.cons (.var 3) .nil)) (.cons (.dsp (.cons (.cst (.str "odd")) (.cons (.var 3) .nil))) .nil))) .nil)))) .nil)))) (.cons (.set 6 (.bi .repr (.var 5))) .nil))))
def g2 : Ss := (.cons (.unp [7, 8, 9] (.tup (.cons (.call 4 (.cons (.var 5) .nil)) (.cons (.call 5 (.cons (.var 5) .nil)) (.cons (.call 4 (.cons (.tup (.cons (.cst (.str "later")) (.cons (.var 3) .nil))) .nil)) .nil))))) .nil)
def g4 : Ss := (.cons (.ife (.or (.not (.call 9 (.cons (.var 7) (.cons (.bi .repr (.var 5)) .nil)))) (.not (.call 9 (.cons (.var 8) (.cons (.bi .repr (.var 5)) .nil))))) (.cons (.ret (.cst (.bl false))) .nil) .nil) .nil)
def g5 : Ss := (.cons (.set 2 (.lst (.cons (.mkz 0) (.cons (.mkz 1) .nil)))) (.cons (.ife (.cmp .ne (.lc (.one 10) (.val (.var 2)) (.call 7 (.cons (.var 10) .nil))) (.lst (.cons (.lst (.cons (.cst (.int 32)) .nil)) (.cons (.lst (.cons (.cst (.int 33)) .nil)) .nil)))) (.cons (.ret (.cst (.bl false))) .nil) .nil) (.cons (.app 2 (.mkz 2)) (.cons (.ret (.and (.bi .all (.lc (.one 10) (.val (.var 2)) (.call 8 (.cons (.var 10) .nil)))) (.cmp .eq (.call 7 (.cons (.sub (.var 2) (.cst (.int 2))) .nil)) (.lst .nil)))) .nil))))
def rF : Ss := .cons (.ret (.cst (.bl false))) .nil
def e3a : E := (.or (.not (.call 9 (.cons (.call 6 .nil) (.cons (.cst (.str "None")) .nil)))) (.not (.call 9 (.cons (.var 9) (.cons (.bi .repr (.tup (.cons (.cst (.str "later")) (.cons (.var 3) .nil)))) .nil)))))
def e3b : E := (.or (.not (.call 9 (.cons (.var 7) (.cons (.var 6) .nil)))) (.not (.call 9 (.cons (.var 8) (.cons (.var 6) .nil)))))
def tCI (K : PySem.W.Frag) (n : String) : TE := tCB (rIsi K) (tCons (tVar 5) (tCons (tC (.ty n)) tNil))
def tIxW (K : PySem.W.Frag) : TE := tOp (fun x y H Q => rIx K x y H Q ∨ rIxD x y H Q) (tVar 5) (tVar 3)
def tIx1 (K : PySem.W.Frag) : TE := tOp (fun x y H Q => rIx K x y H Q ∨ rIxD x y H Q) (tVar 5) (tC (.int 1))
def tApp (K : PySem.W.Frag) (o : TE) : TS := tDrop (tBM K "list" rAppend o (tCons (tC (.str "later")) tNil))
def tI1 (K : PySem.W.Frag) : TS := tIfS (tB (tCI K "list")) (tApp K (tVar 5)) tNext
def tI2 (K : PySem.W.Frag) : TS := tIfS (tB (tCI K "dict")) (tSeq (tApp K (tIxW K)) (tAsg (tC (.int 1)) (gSub (tVar 5) (tC (.str "LATER")) rSetD))) tNext
def tI3 (K : PySem.W.Frag) : TS := tIfS (tAnd (tB (tCI K "tuple")) (tB (tCB (rIsi K) (tCons (tIx1 K) (tCons (tC (.ty "list")) tNil))))) (tApp K (tIx1 K)) tNext
def t_turn (K : PySem.W.Frag) (T : Tb) (C : Calls) (E : XK) : TS := tSsT T K (WE E) C 0 g1 (fun D σ H => ∃ raw : V, tSsT { T with raw := raw } K (WE E) C 0 g2 (tSeq (tIfS (tT T K (WE E) C e3a) (tSs T K (WE E) C 0 rF) tNext) (tSeq (tIfS (tT T K (WE E) C e3b) (tSs T K (WE E) C 0 rF) tNext) (tSeq (tI1 K) (tSeq (tI2 K) (tSeq (tI3 K) (tSsT T K (WE E) C 0 g4 tNext)))))) D σ H)
def t_law (K : PySem.W.Frag) (T : Tb) (C : Calls) (E : XK) : TS := tSeq (tFor (iList K (tCall (spPurses K) [] E (tCons (tVar 0) (tCons (tC (.int 1)) tNil)))) (gName 1) (t_turn K T C E)) (tSs T K (WE E) C 0 g5)
theorem asSs {X : Cx} {T : Tb} {W : WX} {C : Calls} {np : Nat} {ss : Ss} {st : List Stmt} (h : PSs X st (tSs T X.K W C np ss)) : PSs X st (tSs T X.K W C np ss) := h
theorem asT {X : Cx} {T : Tb} {W : WX} {C : Calls} {np : Nat} {ss : Ss} {u : TS} {st : List Stmt} (h : PSs X st (tSsT T X.K W C np ss u)) : PSs X st (tSsT T X.K W C np ss u) := h
theorem exT {X : Cx} {β : Type} {t : β → TS} {st : List Stmt} (h : ∀ b, PSs X st (t b)) : PSs X st (fun D σ H => ∃ b, t b D σ H) := ⟨fun pins s σ H D I ⟨b, w⟩ => (h b).run pins s σ H D I w⟩
theorem scL : FnScope ["_law_script", "_law_purse_here", "_law_rest", "_law_word_here", "_law_plain", "_law_thing", "_law_noted", "_law_some", "_law_called_here", "_law_later", "_law_error"] ["_law_script"] (defScope stL) := ⟨rfl, rfl, rfl, by decide +kernel, rfl, by decide +kernel, by decide +kernel⟩
theorem pb_law {fl : Addr} {P : Program} {w : World} {K : PySem.W.Frag} {mg : Str → Option Value} {base : Heap} {T : Tb} {k : Nat} {fp : Addr} {fdp : FuncData} (bl : Blt mg) (et : ErrT P w K mg T enm) (ez : ErrZT K mg T znm) (isc : IscT K mg T isl) (hsm : ∃ o, K.lookup sysModules = some o ∧ o.cls = .type "dict") (al : ∀ raw : V, All P w K mg base { T with raw := raw } k)
    (FP : FnG P w K mg base (L2.CX P w) k fp fdp ["_law_script", "_law_few"] (spPurses K)) (gp : mg "_law_purses" = some (.ref fp)) (kp : PySem.W.keepIn K (.ref fp) = true) (bp : Binds K fdp ["_law_script", "_law_few"] []) (cdv : Value) (A : Around) (outer : List Env) (s : Shared) (H : Hp) (E : XK)
    (hr : Room k (A.deeper (PyProof.Rows.envOfC "law" (defScope stL) s.heap.objs.size fl cdv))) (hgd : A.guards = some []) :
    PSs (cxOf (L2.CX P w) P w K mg base ["_law_script", "_law_purse_here", "_law_rest", "_law_word_here", "_law_plain", "_law_thing", "_law_noted", "_law_some", "_law_called_here", "_law_later", "_law_error"] "law" (defScope stL) fl cdv A outer s H E) (defBody stL) (t_law K T (calls tab k) E) := by
  have S := scL
  have tk : Takes (cxOf (L2.CX P w) P w K mg base ["_law_script", "_law_purse_here", "_law_rest", "_law_word_here", "_law_plain", "_law_thing", "_law_noted", "_law_some", "_law_called_here", "_law_later", "_law_error"] "law" (defScope stL) fl cdv A outer s H E) (WE E) := takes_of rfl rfl rfl rfl
  have hx := passes_of_takes tk
  have c0 := (al T.raw).c0
  have c1 := (al T.raw).c1
  have c2 := (al T.raw).c2
  have c3 := (al T.raw).c3
  have c4 := (al T.raw).c4
  have c5 := (al T.raw).c5
  have c6 := (al T.raw).c6
  have c7 := (al T.raw).c7
  have c8 := (al T.raw).c8
  have c9 := (al T.raw).c9
  exact pss_cons (ps_for (passes_of rfl) rfl (pi_list (peG_call FP hr hgd rfl gp kp bp hx (pa_cons (pe_var (i := 0) rfl (visC rfl)) (pa_cons pe_int pa_nil)) (by decide) rfl rfl)) (pg_name (i := 1) S.nd rfl (locC rfl) (fnC rfl)) (asT (T := T) (W := WE E) (C := calls tab k) (np := 0) (ss := g1) (s_consT (s_set (ps_set (i := 3) S.nd rfl (locC rfl) (c3.pe hr hgd rfl hx (s_consV rfl (visC rfl) (by decide) (by decide) s_nil rfl) rfl (by decide) rfl rfl) rfl (fnC rfl)) (fun _ _ _ h => h) (by decide))
    (s_consT (s_set (ps_set (i := 4) S.nd rfl (locC rfl) (s_lst (s_cons rfl s_cnon (s_cons rfl s_cbl (s_cons rfl s_cbl (s_cons rfl s_cint (s_consV rfl (visC rfl) (by decide) (by decide) (s_cons rfl (s_neg (s_sub hr.units (s_var rfl (visC rfl) (by decide) (by decide)) s_cint (fun _ _ => rfl))) (s_cons rfl (s_tup (s_cons rfl s_cstr (s_consV rfl (visC rfl) (by decide) (by decide) (s_cons rfl s_cint (s_cons rfl s_cint s_nil rfl) rfl) rfl) rfl)) (s_cons rfl (s_tup (s_consV rfl (visC rfl) (by decide) (by decide) (s_cons rfl (s_lst (s_consV rfl (visC rfl) (by decide) (by decide) s_nil rfl)) s_nil rfl) rfl)) (s_cons rfl (s_dsp (pps_cons (s_var rfl (visC rfl) (by decide) (by decide)) (s_lst (s_consV rfl (visC rfl) (by decide) (by decide) s_nil rfl)) pps_nil) rfl rfl (List.cons_ne_nil _ _) (Nat.le_of_ble_eq_true rfl) rfl) s_nil rfl) rfl) rfl) rfl) rfl) rfl) rfl) rfl) rfl)) rfl (fnC rfl)) (fun _ _ _ h => h) (by decide))
    (s_consT (s_set (ps_set (i := 5) S.nd rfl (locC rfl) (c2.pe hr hgd rfl hx (s_consV rfl (visC rfl) (by decide) (by decide) (s_cons rfl (s_bin (o := .add) (s_var rfl (visC rfl) (by decide) (by decide)) (s_lst (s_cons rfl (s_lst (s_consV rfl (visC rfl) (by decide) (by decide) s_nil rfl)) (s_cons rfl (s_lst (s_cons rfl (s_lst (s_consV rfl (visC rfl) (by decide) (by decide) s_nil rfl)) (s_cons rfl (s_dsp (pps_cons s_cstr (s_var rfl (visC rfl) (by decide) (by decide)) pps_nil) rfl rfl (List.cons_ne_nil _ _) (Nat.le_of_ble_eq_true rfl) rfl) s_nil rfl) rfl)) s_nil rfl) rfl))) s_nil rfl) rfl) rfl (by decide) rfl rfl) rfl (fnC rfl)) (fun _ _ _ h => h) (by decide))
    (s_consT (s_set (ps_set (i := 6) S.nd rfl (locC rfl) (s_repr hgd hr.units hsm rfl bl.repr (s_var rfl (visC rfl) (by decide) (by decide)) rfl) rfl (fnC rfl)) (fun _ _ _ h => h) (by decide))
    (s_nilT (exT fun raw => (asT (T := { T with raw := raw }) (W := WE E) (C := calls tab k) (np := 0) (ss := g2) (s_consT (s_par3 rfl S.nd (i := 7) (j := 8) (l := 9) rfl rfl rfl (by decide) (by decide) (by decide) rfl rfl rfl (s_cons rfl ((al raw).c4.pe hr hgd rfl hx (s_consV rfl (visC rfl) (by decide) (by decide) s_nil rfl) rfl (by decide) rfl rfl) (s_cons rfl ((al raw).c5.pe hr hgd rfl hx (s_consV rfl (visC rfl) (by decide) (by decide) s_nil rfl) rfl (by decide) rfl rfl) (s_cons rfl ((al raw).c4.pe hr hgd rfl hx (s_cons rfl (s_tup (s_cons rfl s_cstr (s_consV rfl (visC rfl) (by decide) (by decide) s_nil rfl) rfl)) s_nil rfl) rfl (by decide) rfl rfl) s_nil rfl) rfl) rfl) rfl rfl rfl (by decide) (by decide) (by decide))
    (s_nilT (pss_cons (ps_if (Snd.pt (T := T) (W := WE E) (C := calls tab k) (SndB.snd (s_or (s_not (Snd.of (c9.pe hr hgd rfl hx (s_cons rfl (c6.pe0 hr hgd rfl hx (by decide)) (s_cons rfl s_cstr s_nil rfl) rfl) rfl (by decide) rfl rfl) (fun _ => rfl))) (s_or1 (s_not (Snd.of (c9.pe hr hgd rfl hx (s_consV rfl (visC rfl) (by decide) (by decide) (s_cons rfl (s_repr hgd hr.units hsm rfl bl.repr (s_tup (s_cons rfl s_cstr (s_consV rfl (visC rfl) (by decide) (by decide) s_nil rfl) rfl)) rfl) s_nil rfl) rfl) rfl (by decide) rfl rfl) (fun _ => rfl))))))) (asSs (T := T) (W := WE E) (C := calls tab k) (np := 0) (ss := rF) (s_consS (s_ret s_cbl rfl)
    s_nilS)) pss_nil) (pss_cons (ps_if (Snd.pt (T := T) (W := WE E) (C := calls tab k) (SndB.snd (s_or (s_not (Snd.of (c9.pe hr hgd rfl hx (s_consV rfl (visC rfl) (by decide) (by decide) (s_consV rfl (visC rfl) (by decide) (by decide) s_nil rfl) rfl) rfl (by decide) rfl rfl) (fun _ => rfl))) (s_or1 (s_not (Snd.of (c9.pe hr hgd rfl hx (s_consV rfl (visC rfl) (by decide) (by decide) (s_consV rfl (visC rfl) (by decide) (by decide) s_nil rfl) rfl) rfl (by decide) rfl rfl) (fun _ => rfl))))))) (asSs (T := T) (W := WE E) (C := calls tab k) (np := 0) (ss := rF) (s_consS (s_ret s_cbl rfl)
    s_nilS)) pss_nil) (pss_cons (ps_if (pt_val (pe_callB call_isi rfl bl.isinstance (by decide +kernel) (pa_cons (pe_var (i := 5) rfl (visC rfl)) (pa_cons (pe_bltn (v := .ty "list") (u := .type "list") rfl bl.list (by decide +kernel) rfl) pa_nil)))) (pss_one (ps_expr (pe_bm PySem.F.plainAttrs_list PySem.F.slot_list_append PySem.F.type_list_append mt_append (pe_var (i := 5) rfl (visC rfl)) (pa_cons pe_str pa_nil)))) pss_nil) (pss_cons (ps_if (pt_val (pe_callB call_isi rfl bl.isinstance (by decide +kernel) (pa_cons (pe_var (i := 5) rfl (visC rfl)) (pa_cons (pe_bltn (v := .ty "dict") (u := .type "dict") rfl bl.dict (by decide +kernel) rfl) pa_nil)))) (pss_cons (ps_expr (pe_bm PySem.F.plainAttrs_list PySem.F.slot_list_append PySem.F.type_list_append mt_append (pe_ix (IxR.or ix_seq (ix_dict hr.units)) (pe_var (i := 5) rfl (visC rfl)) (pe_var (i := 3) rfl (visC rfl)) (fun _ _ => rfl)) (pa_cons pe_str pa_nil))) (pss_one (ps_asg pe_int (pg_sub (pe_var (i := 5) rfl (visC rfl)) pe_str (set_dict (hu_of hr)))))) pss_nil) (pss_cons (ps_if (PW.pt (pw_and (pt_val (pe_callB call_isi rfl bl.isinstance (by decide +kernel) (pa_cons (pe_var (i := 5) rfl (visC rfl)) (pa_cons (pe_bltn (v := .ty "tuple") (u := .type "tuple") rfl bl.tuple (by decide +kernel) rfl) pa_nil)))) (pw_and1 (pt_val (pe_callB call_isi rfl bl.isinstance (by decide +kernel) (pa_cons (pe_ix (IxR.or ix_seq (ix_dict hr.units)) (pe_var (i := 5) rfl (visC rfl)) pe_int (fun _ _ => rfl)) (pa_cons (pe_bltn (v := .ty "list") (u := .type "list") rfl bl.list (by decide +kernel) rfl) pa_nil))))))) (pss_one (ps_expr (pe_bm PySem.F.plainAttrs_list PySem.F.slot_list_append PySem.F.type_list_append mt_append (pe_ix (IxR.or ix_seq (ix_dict hr.units)) (pe_var (i := 5) rfl (visC rfl)) pe_int (fun _ _ => rfl)) (pa_cons pe_str pa_nil)))) pss_nil) (asT (T := T) (W := WE E) (C := calls tab k) (np := 0) (ss := g4) (s_consT (s_if (Snd.pt (SndB.snd (s_or (s_not (Snd.of (c9.pe hr hgd rfl hx (s_consV rfl (visC rfl) (by decide) (by decide) (s_cons rfl (s_repr hgd hr.units hsm rfl bl.repr (s_var rfl (visC rfl) (by decide) (by decide)) rfl) s_nil rfl) rfl) rfl (by decide) rfl rfl) (fun _ => rfl))) (s_or1 (s_not (Snd.of (c9.pe hr hgd rfl hx (s_consV rfl (visC rfl) (by decide) (by decide) (s_cons rfl (s_repr hgd hr.units hsm rfl bl.repr (s_var rfl (visC rfl) (by decide) (by decide)) rfl) s_nil rfl) rfl) rfl (by decide) rfl rfl) (fun _ => rfl))))))) (s_consS (s_ret s_cbl rfl)
    s_nilS) s_nilS)
    (s_nilT pss_nil))))))))))))))))))) (asSs (T := T) (W := WE E) (C := calls tab k) (np := 0) (ss := g5) (s_consS (s_set (ps_set (i := 2) S.nd rfl (locC rfl) (s_lst (s_cons rfl (s_mkz (c := 0) ez rfl rfl (by decide)) (s_cons rfl (s_mkz (c := 1) ez rfl rfl (by decide)) s_nil rfl) rfl)) rfl (fnC rfl)) (fun _ _ _ h => h) (by decide))
    (s_consS (s_if (Snd.pt (s_cmp (o := .ne) hr.units (s_lc (own := [("_law_error", 10)]) (WB := WE fun _ _ _ => False) rfl S.nd (s_itval (s_var rfl (visC rfl) (by decide) (by decide))) (blkOk_by rfl) rfl (fun _ _ _ _ _ => (s_tone S.nd rfl (locC rfl) (fnC rfl))) (fun _ _ _ _ _ => (c7.pe hr hgd rfl passes_blk (s_consV rfl (visC rfl) (by decide) (by decide) s_nil rfl) rfl (by decide) rfl rfl)) (fun _ => rfl)) (s_lst (s_cons rfl (s_lst (s_cons rfl s_cint s_nil rfl)) (s_cons rfl (s_lst (s_cons rfl s_cint s_nil rfl)) s_nil rfl) rfl)) rfl)) (s_consS (s_ret s_cbl rfl)
    s_nilS) s_nilS)
    (s_consS (s_app rfl (visC rfl) (by decide) (by decide) (s_mkz (c := 2) ez rfl rfl (by decide)) rfl rfl rfl rfl)
    (s_consS (s_ret (Snd.pe (SndB.snd (s_and (Snd.of (s_all rfl rfl bl.all (s_lc (own := [("_law_error", 10)]) (WB := WE fun _ _ _ => False) rfl S.nd (s_itval (s_var rfl (visC rfl) (by decide) (by decide))) (blkOk_by rfl) rfl (fun _ _ _ _ _ => (s_tone S.nd rfl (locC rfl) (fnC rfl))) (fun _ _ _ _ _ => (c8.pe hr hgd rfl passes_blk (s_consV rfl (visC rfl) (by decide) (by decide) s_nil rfl) rfl (by decide) rfl rfl)) (fun _ => rfl)) rfl) (fun _ => rfl)) (s_and1 (s_cmp (o := .eq) hr.units (c7.pe hr hgd rfl hx (s_cons rfl (s_sub hr.units (s_var rfl (visC rfl) (by decide) (by decide)) s_cint (fun _ _ => rfl)) s_nil rfl) rfl (by decide) rfl rfl) (s_lst s_nil) rfl))))) rfl)
    s_nilS)))))
end B


/-! k01: what its defs compute. -/
namespace B
open PySem
def errsOf (d : D) : List D := (List.range 32).map fun c => .err c d
theorem first_ok (k : Nat) (d : D) (P : Option Pu) : calls tab (k + 1) 4 [d] P = some (.ok (.lst (errsOf d)) .fresh P) := by kernel_rfl
theorem called_ok (k : Nat) (d : D) (P : Option Pu) : calls tab (k + 1) 5 [d] P = some (.ok (.lst (errsOf d)) .fresh P) := by kernel_rfl
theorem bare_ok (k : Nat) (P : Option Pu) : calls tab (k + 1) 6 [] P = some (.ok (.lst (errsOf .non)) .fresh P) := by kernel_rfl
theorem code_ok (k : Nat) (c : Nat) (hc : c < 32) (d : D) (P : Option Pu) : calls tab (k + 1) 7 [.err c d] P = some (.ok (.lst [.int c]) .fresh P) := by
  match c, hc with
  | 0, _ => kernel_rfl
  | 1, _ => kernel_rfl
  | 2, _ => kernel_rfl
  | 3, _ => kernel_rfl
  | 4, _ => kernel_rfl
  | 5, _ => kernel_rfl
  | 6, _ => kernel_rfl
  | 7, _ => kernel_rfl
  | 8, _ => kernel_rfl
  | 9, _ => kernel_rfl
  | 10, _ => kernel_rfl
  | 11, _ => kernel_rfl
  | 12, _ => kernel_rfl
  | 13, _ => kernel_rfl
  | 14, _ => kernel_rfl
  | 15, _ => kernel_rfl
  | 16, _ => kernel_rfl
  | 17, _ => kernel_rfl
  | 18, _ => kernel_rfl
  | 19, _ => kernel_rfl
  | 20, _ => kernel_rfl
  | 21, _ => kernel_rfl
  | 22, _ => kernel_rfl
  | 23, _ => kernel_rfl
  | 24, _ => kernel_rfl
  | 25, _ => kernel_rfl
  | 26, _ => kernel_rfl
  | 27, _ => kernel_rfl
  | 28, _ => kernel_rfl
  | 29, _ => kernel_rfl
  | 30, _ => kernel_rfl
  | 31, _ => kernel_rfl
  | n + 32, h => exact absurd h (by omega)
theorem code_z0 (k : Nat) (P : Option Pu) : calls tab (k + 1) 7 [.er0 0] P = some (.ok (.lst [.int 32]) .fresh P) := by kernel_rfl
theorem code_z1 (k : Nat) (P : Option Pu) : calls tab (k + 1) 7 [.er0 1] P = some (.ok (.lst [.int 33]) .fresh P) := by kernel_rfl
theorem code_z2 (k : Nat) (P : Option Pu) : calls tab (k + 1) 7 [.er0 2] P = some (.ok (.lst []) .fresh P) := by kernel_rfl
theorem is_error_ok (k : Nat) (c : Nat) (hc : c < 32) (d : D) (P : Option Pu) : calls tab (k + 1) 8 [.err c d] P = some (.ok (.bl true) .cold P) := by
  match c, hc with
  | 0, _ => kernel_rfl
  | 1, _ => kernel_rfl
  | 2, _ => kernel_rfl
  | 3, _ => kernel_rfl
  | 4, _ => kernel_rfl
  | 5, _ => kernel_rfl
  | 6, _ => kernel_rfl
  | 7, _ => kernel_rfl
  | 8, _ => kernel_rfl
  | 9, _ => kernel_rfl
  | 10, _ => kernel_rfl
  | 11, _ => kernel_rfl
  | 12, _ => kernel_rfl
  | 13, _ => kernel_rfl
  | 14, _ => kernel_rfl
  | 15, _ => kernel_rfl
  | 16, _ => kernel_rfl
  | 17, _ => kernel_rfl
  | 18, _ => kernel_rfl
  | 19, _ => kernel_rfl
  | 20, _ => kernel_rfl
  | 21, _ => kernel_rfl
  | 22, _ => kernel_rfl
  | 23, _ => kernel_rfl
  | 24, _ => kernel_rfl
  | 25, _ => kernel_rfl
  | 26, _ => kernel_rfl
  | 27, _ => kernel_rfl
  | 28, _ => kernel_rfl
  | 29, _ => kernel_rfl
  | 30, _ => kernel_rfl
  | 31, _ => kernel_rfl
  | n + 32, h => exact absurd h (by omega)
theorem is_error_z (k : Nat) (c : Nat) (hc : c < 3) (P : Option Pu) : calls tab (k + 1) 8 [.er0 c] P = some (.ok (.bl true) .cold P) := by
  match c, hc with
  | 0, _ => kernel_rfl
  | 1, _ => kernel_rfl
  | 2, _ => kernel_rfl
theorem turns_none {f : D → Option Pu → Option (Option D × Option Pu)} {P : Option Pu} : ∀ {xs : List D} {acc : List D}, (∀ x ∈ xs, f x P = some (none, P)) → turns f xs P acc = some (acc, P)
  | [], acc, h => rfl
  | x :: xs, acc, h => by
    unfold turns
    rw [h x List.mem_cons_self]
    exact turns_none fun y hy => h y (List.mem_cons_of_mem _ hy)
theorem eqD_str (x : Str) : eqD (.str x) (.str x) = some true := by
  show (if min (PyData.str x).depth (PyData.str x).depth ≤ 60 then some (PyData.eqv (.str x) (.str x)) else none) = _
  rw [if_pos (by simp [PyData.depth])]
  simp [PyData.eqv]
def eEq : E := .or (.not (.call 8 (.cons (.var 2) .nil))) (.cmp .ne (.bi .repr (.vlu (.var 2))) (.var 1))
def eCmp : E := .cmp .ne (.lc (.one 2) (.val (.var 0)) (.call 7 (.cons (.var 2) .nil))) (.lc (.one 3) (.rng (.cst (.int 32))) (.lst (.cons (.var 3) .nil)))
def eRet : E := .cmp .eq (.lcif (.one 2) (.val (.var 0)) eEq (.var 2)) (.lst .nil)
theorem execs_if_no {C : Calls} {c : E} {a r : Ss} {ρ : Sl} {P P' : Option Pu} {m : Mode} (h : evalE C c ρ P = some (.ok (.bl false) m P')) : execs C (.cons (.ife c a .nil) r) ρ P = execs C r ρ P' := by
  rw [execs, exec, h]
  show (match execs C .nil ρ P' with
    | some (.next ρ' P') => execs C r ρ' P'
    | x => x) = _
  rw [execs]
theorem execs_ret {C : Calls} {e : E} {r : Ss} {ρ : Sl} {P P' : Option Pu} {d : D} (h : evalE C e ρ P = some (.ok d .cold P')) : execs C (.cons (.ret e) r) ρ P = some (.ret d .cold P') := by
  rw [execs, exec, h]
  rfl
theorem run_ret {C : Calls} {f : Fd} {ds : List D} {P P' : Option Pu} {d : D} {m : Mode} (hn : ds.length = f.np) (h : execs C f.body (startS f.ns ds) P = some (.ret d m P')) : runFd C f ds P = some (.ok d m P') := by
  unfold runFd
  rw [if_pos hn, h]
def rρ (ds : List D) (x : Str) : Sl := [.cold (.lst ds), .cold (.str x), .no, .no]
def rightTurn (C : Calls) (ds : List D) (x : Str) : D → Option Pu → Option (Option D × Option Pu) := fun y P => match (Tg.one 2).put y (wipeS (rρ ds x) (Tg.one 2).slots) with
      | some ρx => match evalE C eEq ρx P with
        | some (.ok (.bl true) _ P') => match evalE C (.var 2) ρx P' with
          | some (.ok d .bor _) => none
          | some (.ok d _ P'') => some (some d, P'')
          | _ => none
        | some (.ok (.bl false) _ P') => some (none, P')
        | _ => none
      | none => none
/-- the errors of one thing, its text as noted -/
theorem right_ok (k : Nat) (d : D) (x : Str) (h : reprD d = some x) (P : Option Pu) : calls tab (k + 2) 9 [.lst (errsOf d), .str x] P = some (.ok (.bl true) .cold P) := by
  have h1 : evalE (calls tab (k + 1)) eCmp (rρ (errsOf d) x) P = some (.ok (.bl false) .cold P) := by kernel_rfl
  have hturn : ∀ y ∈ errsOf d, rightTurn (calls tab (k + 1)) (errsOf d) x y P = some ((none : Option D), P) := by
    intro y hy
    obtain ⟨c, hc, rfl⟩ := List.mem_map.mp hy
    have hc : c < 32 := List.mem_range.mp hc
    have e1 : cmpM .ne .cold (.str x) (.str x) = some false := by
      show (eqD (.str x) (.str x)).map (!·) = _
      rw [eqD_str]
      rfl
    simp only [rightTurn, rρ, eEq, Tg.put, Tg.slots, wipeS, List.set, evalE, evalEs, bnd, bndL, rget, List.getElem?_cons_zero, List.getElem?_cons_succ, is_error_ok k c hc d P, reO, truth, Bool.not_true, biM, biD, h, rok, rbl, e1]
  have hit : evalIt (calls tab (k + 1)) (.val (.var 0)) (rρ (errsOf d) x) P = some (.ok (errsOf d) P) := by kernel_rfl
  have hlc : evalE (calls tab (k + 1)) (.lcif (.one 2) (.val (.var 0)) eEq (.var 2)) (rρ (errsOf d) x) P = some (.ok (.lst []) .fresh P) := by
    have step : evalE (calls tab (k + 1)) (.lcif (.one 2) (.val (.var 0)) eEq (.var 2)) (rρ (errsOf d) x) P = bndL (evalIt (calls tab (k + 1)) (.val (.var 0)) (rρ (errsOf d) x) P) (fun xs P => match turns (rightTurn (calls tab (k + 1)) (errsOf d) x) xs P [] with
        | some (ds, P') => some (.ok (.lst ds) .fresh P')
        | none => none) := by
      rw [evalE]
      rfl
    rw [step, hit]
    show (match turns (rightTurn (calls tab (k + 1)) (errsOf d) x) (errsOf d) P [] with
        | some (ds, P') => some (R.ok (.lst ds) .fresh P')
        | none => none) = _
    rw [turns_none hturn]
  have hret : evalE (calls tab (k + 1)) eRet (rρ (errsOf d) x) P = some (.ok (.bl true) .cold P) := by
    show bnd (evalE (calls tab (k + 1)) (.lcif (.one 2) (.val (.var 0)) eEq (.var 2)) (rρ (errsOf d) x) P) (fun x' m P => bnd (evalE (calls tab (k + 1)) (.lst .nil) (rρ (errsOf d) x) P) fun y _ P => rbl (cmpM .eq m x' y) P) = _
    rw [hlc]
    kernel_rfl
  have e : ∀ ds P, calls tab (k + 2) 9 ds P = runFd (calls tab (k + 1)) ir9 ds P := fun ds P => by kernel_rfl
  have eb : ∀ ds y, startS ir9.ns [.lst ds, .str y] = rρ ds y := fun ds y => by kernel_rfl
  have eb2 : ir9.body = .cons (.ife eCmp (.cons (.ret (.cst (.bl false))) .nil) .nil) (.cons (.ret eRet) .nil) := by kernel_rfl
  rw [e]
  refine run_ret (m := .cold) (by kernel_rfl) ?_
  rw [eb, eb2, execs_if_no h1, execs_ret hret]
end B


/-! k01: what the groups of the law's body compute. -/
namespace B
open PySem
def no11 : Sl := [.no, .no, .no, .no, .no, .no, .no, .no, .no, .no, .no]
theorem g5_ok (k : Nat) : execs (calls tab (k + 1)) g5 no11 none = some (.ret (.bl true) .cold none) := by kernel_rfl
def cand (w : Str) (b : Int) : List D := [.non, .bl true, .bl false, .int 0, .str w, .int (-b), .tup [.str "says", .str w, .int 1, .int 2], .tup [.str w, .lst [.str w]], .dct [(.str w, .lst [.str w])], .lst [.str w], .lst [.lst [.str w], .dct [(.str "odd", .str w)]]]
end B
namespace B
open PySem
theorem reprD_of {d : D} {q : PyData} (h : d.pyR = some q) (hs : q.showable = true) (hd : q.depth ≤ 60) (hl : q.leavesShort 13 = true) (hb : q.bulk ≤ 60000) : reprD d = some q.shown := by
  have e := PyData.shown_le_bulk 13 (by decide) q hl
  unfold reprD
  rw [h]
  show (if q.showable && (decide (q.depth ≤ 60) && decide (q.shown.length ≤ LIM)) then some q.shown else none) = _
  rw [hs, decide_eq_true hd, decide_eq_true (show q.shown.length ≤ LIM by unfold LIM; omega)]
  rfl
end B
namespace B
open PySem
theorem sm_all {w : Str} (h : Sm w) : (w.cps.toList.all fun c => decide (c < 16 ^ 8)) = true := List.all_eq_true.mpr fun c hc => decide_eq_true (h c hc)
/-- data of texts that are short -/
theorem cand_repr {w : Str} {b : Int} (hw : Sm w) (hl : w.length ≤ 8) (hb : b.natAbs < 10 ^ 12) : ∀ d ∈ cand w b, ∃ x, reprD d = some x := by
  have hs := sm_all hw
  have hz : w.cps.size ≤ 8 := hl
  have hi : (PyData.shown (.int (-b))).length ≤ 13 := PyData.shown_int_le (by omega)
  have hi2 : (-b).natAbs.log2 < 1920 := by
    rw [Int.natAbs_neg]
    by_cases h0 : b.natAbs = 0
    · rw [h0]; decide
    · exact (Nat.log2_lt h0).mpr (Nat.lt_of_lt_of_le hb (by decide +kernel))
  intro d hd
  simp only [cand, List.mem_cons, List.not_mem_nil, or_false] at hd
  rcases hd with rfl | rfl | rfl | rfl | rfl | rfl | rfl | rfl | rfl | rfl | rfl
  · exact ⟨_, reprD_of rfl rfl (by decide) rfl (by decide)⟩
  · exact ⟨_, reprD_of rfl rfl (by decide) rfl (by decide)⟩
  · exact ⟨_, reprD_of rfl rfl (by decide) rfl (by decide)⟩
  · exact ⟨_, reprD_of rfl (by decide +kernel) (by decide) (by decide +kernel) (by decide)⟩
  · exact ⟨_, reprD_of rfl rfl (by simp [PyData.depth]) hs (by show w.cps.size ≤ 60000; omega)⟩
  · exact ⟨_, reprD_of rfl (decide_eq_true hi2) (by simp [PyData.depth]) (decide_eq_true hi) (Nat.zero_le _)⟩
  · exact ⟨_, reprD_of rfl (by simp [PyData.showable, PyData.showableAll]; decide +kernel) (by simp [PyData.depth, PyData.depthAll]) (by
      have e1 : ((Str.ofString "says").cps.toList.all fun c => decide (c < 16 ^ 8)) = true := by decide +kernel
      have e2 : (PyData.int 1).leavesShort 13 = true := by decide +kernel
      have e3 : (PyData.int 2).leavesShort 13 = true := by decide +kernel
      have e4 : (PyData.str w).leavesShort 13 = true := hs
      have e5 : (PyData.str (Str.ofString "says")).leavesShort 13 = true := e1
      rw [PyData.leavesShort, PyData.leavesShortAll, PyData.leavesShortAll, PyData.leavesShortAll, PyData.leavesShortAll, PyData.leavesShortAll, e2, e3, e4, e5]
      rfl) (by
      have e1 : (Str.ofString "says").cps.size = 4 := by decide
      show (Str.ofString "says").cps.size + 1 + (w.cps.size + 1 + (0 + 1 + (0 + 1 + 0))) ≤ 60000
      omega)⟩
  · exact ⟨_, reprD_of rfl rfl (by simp [PyData.depth, PyData.depthAll]) (by simp only [PyData.leavesShort, PyData.leavesShortAll, hs, Bool.true_and, Bool.and_true]) (by simp only [PyData.bulk, PyData.bulkAll]; omega)⟩
  · exact ⟨_, reprD_of rfl rfl (by simp [PyData.depth, PyData.depthAll, PyData.depthKv]) (by simp only [PyData.leavesShort, PyData.leavesShortAll, PyData.leavesShortKv, hs, Bool.true_and, Bool.and_true]) (by simp only [PyData.bulk, PyData.bulkAll, PyData.bulkKv]; omega)⟩
  · exact ⟨_, reprD_of rfl rfl (by simp [PyData.depth, PyData.depthAll]) (by simp only [PyData.leavesShort, PyData.leavesShortAll, hs, Bool.true_and, Bool.and_true]) (by simp only [PyData.bulk, PyData.bulkAll]; omega)⟩
  · exact ⟨_, reprD_of rfl rfl (by simp [PyData.depth, PyData.depthAll, PyData.depthKv]) (by
      have e1 : ((Str.ofString "odd").cps.toList.all fun c => decide (c < 16 ^ 8)) = true := by decide +kernel
      have e4 : (PyData.str w).leavesShort 13 = true := hs
      have e5 : (PyData.str (Str.ofString "odd")).leavesShort 13 = true := e1
      have e6 : (PyData.list [.str w]).leavesShort 13 = true := by rw [PyData.leavesShort, PyData.leavesShortAll, PyData.leavesShortAll, e4]; rfl
      have e7 : (PyData.dict [(.str (Str.ofString "odd"), .str w)]).leavesShort 13 = true := by rw [PyData.leavesShort, PyData.leavesShortKv, PyData.leavesShortKv, e4, e5]; rfl
      rw [PyData.leavesShort, PyData.leavesShortAll, PyData.leavesShortAll, PyData.leavesShortAll, e6, e7]
      rfl) (by
      have e1 : (Str.ofString "odd").cps.size = 3 := by decide
      show (w.cps.size + 1 + 0) + 1 + (((Str.ofString "odd").cps.size + w.cps.size + 2 + 0) + 1 + 0) ≤ 60000
      omega)⟩
end B
namespace B
open PySem
def Ss.hd : Ss → S
  | .cons s _ => s
  | .nil => .pass
def Ss.tl : Ss → Ss
  | .cons _ r => r
  | .nil => .nil
theorem execs_next {C : Calls} {s : S} {r : Ss} {ρ ρ' : Sl} {P P' : Option Pu} (h : exec C s ρ P = some (.next ρ' P')) : execs C (.cons s r) ρ P = execs C r ρ' P' := by
  rw [execs, h]
def sl1 (w : Str) (pl th no : Slot) : Sl := [.no, .cold .pur, .no, .cold (.str w), pl, th, no, .no, .no, .no, .no]
def sl0 : Sl := [.no, .cold .pur, .no, .no, .no, .no, .no, .no, .no, .no, .no]
theorem g1_s2 (C : Calls) (w : Str) (P : Pu) : exec C g1.tl.hd (sl1 w .no .no .no) (some P) = some (.next (sl1 w (.own (.lst ((cand w P.b).take 9))) .no .no) (some P)) := by kernel_rfl
def g1args : Es := match g1.tl.tl.hd with
  | .set _ (.call _ es) => es
  | _ => .nil
theorem g1_s3e : g1.tl.tl.hd = .set 5 (.call 2 g1args) := by kernel_rfl
theorem g1_args (C : Calls) (w : Str) (P : Pu) : evalEs C g1args (sl1 w (.own (.lst ((cand w P.b).take 9))) .no .no) (some P) = some (.ok [.pur, .lst (cand w P.b)] (some P)) := by kernel_rfl
theorem g1_s1 (C : Calls) (w : Str) (P P1 : Pu) (h : C 3 [.pur] (some P) = some (.ok (.str w) .cold (some P1))) : exec C g1.hd sl0 (some P) = some (.next (sl1 w .no .no .no) (some P1)) := by
  have e : g1.hd = .set 3 (.call 3 (.cons (.var 1) .nil)) := by kernel_rfl
  rw [e]
  simp only [exec, evalE, evalEs, obnd, bndL, rget, sl0, List.getElem?_cons_zero, List.getElem?_cons_succ, h, reO, slotOf, List.set, sl1]
theorem g1_s3 (C : Calls) (w : Str) (P P2 : Pu) (d : D) (h : C 2 [.pur, .lst (cand w P.b)] (some P) = some (.ok d .cold (some P2))) : exec C g1.tl.tl.hd (sl1 w (.own (.lst ((cand w P.b).take 9))) .no .no) (some P) = some (.next (sl1 w (.own (.lst ((cand w P.b).take 9))) (.cold d) .no) (some P2)) := by
  rw [g1_s3e, exec, evalE, g1_args]
  simp only [bndL, h, reO, obnd, slotOf]
  rfl
theorem g1_s4 (C : Calls) (w : Str) (pl : Slot) (d : D) (x : Str) (P : Option Pu) (h : reprD d = some x) : exec C g1.tl.tl.tl.hd (sl1 w pl (.cold d) .no) P = some (.next (sl1 w pl (.cold d) (.cold (.str x))) P) := by
  have e : g1.tl.tl.tl.hd = .set 6 (.bi .repr (.var 5)) := by kernel_rfl
  rw [e]
  simp only [exec, evalE, obnd, bnd, rok, rget, sl1, List.getElem?_cons_zero, List.getElem?_cons_succ, biM, biD, h, slotOf, List.set]
end B
namespace B
open PySem
theorem call3 (k : Nat) (ds : List D) (P : Option Pu) : calls tab (k + 1) 3 ds P = runFd (calls tab k) irWord ds P := by kernel_rfl
theorem call2 (k : Nat) (ds : List D) (P : Option Pu) : calls tab (k + 1) 2 ds P = runFd (calls tab k) irOne ds P := by kernel_rfl
theorem draw_k01 (k : Nat) : DrawOk (calls tab (k + 2)) := draw_ok (by kernel_rfl) (by kernel_rfl) k
theorem g1_ok (k : Nat) (P : Pu) (hc0 : 0 ≤ P.c) (hc1 : P.c < 2 ^ 50) (hb : P.b.natAbs < 10 ^ 12) : ∃ (w : Str) (d : D) (x : Str) (P' : Pu),
    execs (calls tab (k + 3)) g1 sl0 (some P) = some (.next (sl1 w (.own (.lst ((cand w P.b).take 9))) (.cold d) (.cold (.str x))) (some P')) ∧ Sm w ∧ w.length ≤ 8 ∧ d ∈ cand w P.b ∧ reprD d = some x := by
  obtain ⟨w, P1, h1, hl, hw, c0, c1, b1⟩ := word_run (draw_k01 k) P hc0 (by omega)
  have hlen : (cand w P1.b).length = 11 := rfl
  obtain ⟨i, d, P2, h2, hd, c2, c3, b2⟩ := one_run (draw_k01 k) P1 (cand w P1.b) (by rw [hlen]; decide) (by rw [hlen]; decide) (by omega) (by omega)
  have hmem : d ∈ cand w P.b := by
    rw [b1] at hd
    exact List.mem_of_getElem? hd
  obtain ⟨x, hx⟩ := cand_repr hw hl hb d hmem
  refine ⟨w, d, x, P2, ?_, hw, hl, hmem, hx⟩
  have e : g1 = .cons g1.hd (.cons g1.tl.hd (.cons g1.tl.tl.hd (.cons g1.tl.tl.tl.hd .nil))) := by kernel_rfl
  have s2 := g1_s2 (calls tab (k + 3)) w P1
  have s3 := g1_s3 (calls tab (k + 3)) w P1 P2 d (by rw [call2]; exact h2)
  rw [b1] at s2 s3
  rw [e, execs_next (g1_s1 _ w P P1 (by rw [call3]; exact h1)), execs_next s2, execs_next s3, execs_next (g1_s4 _ w _ d x _ hx), execs]
end B
namespace B
open PySem
def sl2 (w : Str) (pl th no a b c : Slot) : Sl := [.no, .cold .pur, .no, .cold (.str w), pl, th, no, a, b, c, .no]
theorem g2_ok (k : Nat) (w : Str) (pl no : Slot) (P : Option Pu) : execs (calls tab (k + 1)) g2 (sl2 w pl (.cold .raw) no .no .no .no) P = some (.next (sl2 w pl (.cold .raw) no (.cold (.lst (errsOf .raw))) (.cold (.lst (errsOf .raw))) (.cold (.lst (errsOf (.tup [.str "later", .str w]))))) P) := by kernel_rfl
end B
namespace B
open PySem
theorem bare_none (k : Nat) (P : Option Pu) : calls tab (k + 2) 9 [.lst (errsOf .non), .str "None"] P = some (.ok (.bl true) .cold P) := right_ok k .non "None" (by kernel_rfl) P
theorem later_repr {w : Str} (hw : Sm w) (hl : w.length ≤ 8) : ∃ y, reprD (.tup [.str "later", .str w]) = some y := by
  have hs := sm_all hw
  have hz : w.cps.size ≤ 8 := hl
  refine ⟨_, reprD_of rfl rfl (by simp [PyData.depth, PyData.depthAll]) (by
    have e1 : (PyData.str (Str.ofString "later")).leavesShort 13 = true := by decide +kernel
    have e4 : (PyData.str w).leavesShort 13 = true := hs
    rw [PyData.leavesShort, PyData.leavesShortAll, PyData.leavesShortAll, PyData.leavesShortAll, e1, e4]
    rfl) (by
    have e1 : (Str.ofString "later").cps.size = 5 := by decide
    show (Str.ofString "later").cps.size + 1 + (w.cps.size + 1 + 0) ≤ 60000
    omega)⟩
end B
namespace B
open PySem
theorem if_or_no {C : Calls} {a b : E} {r : Ss} {ρ : Sl} {P : Option Pu} {ma mb : Mode} (h1 : evalE C a ρ P = some (.ok (.bl true) ma P)) (h2 : evalE C b ρ P = some (.ok (.bl true) mb P)) :
    execs C (.cons (.ife (.or (.not a) (.not b)) (.cons (.ret (.cst (.bl false))) .nil) .nil) r) ρ P = execs C r ρ P := by
  refine execs_if_no (m := .cold) ?_
  simp only [evalE, h1, h2, bnd, truth, Bool.not_true]
theorem call9 {C : Calls} {es : Es} {ρ : Sl} {P : Option Pu} {ds : List D} (ha : evalEs C es ρ P = some (.ok ds P)) (h : C 9 ds P = some (.ok (.bl true) .cold P)) : evalE C (.call 9 es) ρ P = some (.ok (.bl true) .cold P) := by
  simp only [evalE, ha, bndL, h, reO]
/-- the last test: the thing's text is told anew -/
theorem g4_ok (k : Nat) (w : Str) (pl no la : Slot) (d : D) (x : Str) (h : reprD d = some x) (P : Option Pu) : execs (calls tab (k + 2)) g4 (sl2 w pl (.cold d) no (.cold (.lst (errsOf d))) (.cold (.lst (errsOf d))) la) P = some (.next (sl2 w pl (.cold d) no (.cold (.lst (errsOf d))) (.cold (.lst (errsOf d))) la) P) := by
  have e : g4 = .cons (.ife (.or (.not (.call 9 (.cons (.var 7) (.cons (.bi .repr (.var 5)) .nil)))) (.not (.call 9 (.cons (.var 8) (.cons (.bi .repr (.var 5)) .nil))))) (.cons (.ret (.cst (.bl false))) .nil) .nil) .nil := by kernel_rfl
  have r := right_ok k d x h P
  rw [e, if_or_no (call9 (ds := [.lst (errsOf d), .str x]) ?_ r) (call9 (ds := [.lst (errsOf d), .str x]) ?_ r), execs]
  · simp only [evalEs, evalE, rget, sl2, List.getElem?_cons_zero, List.getElem?_cons_succ, bnd, biM, biD, h, rok]
  · simp only [evalEs, evalE, rget, sl2, List.getElem?_cons_zero, List.getElem?_cons_succ, bnd, biM, biD, h, rok]
end B
namespace B
open PySem
theorem or_no {C : Calls} {a b : E} {ρ : Sl} {P : Option Pu} {ma mb : Mode} (h1 : evalE C a ρ P = some (.ok (.bl true) ma P)) (h2 : evalE C b ρ P = some (.ok (.bl true) mb P)) : evalE C (.or (.not a) (.not b)) ρ P = some (.ok (.bl false) .cold P) := by
  simp only [evalE, h1, h2, bnd, truth, Bool.not_true]
theorem e3a_ok (k : Nat) (w : Str) (hw : Sm w) (hl : w.length ≤ 8) (pl th no a b : Slot) (P : Option Pu) : evalE (calls tab (k + 2)) e3a (sl2 w pl th no a b (.cold (.lst (errsOf (.tup [.str "later", .str w]))))) P = some (.ok (.bl false) .cold P) := by
  obtain ⟨y, hy⟩ := later_repr hw hl
  have e : e3a = .or (.not (.call 9 (.cons (.call 6 .nil) (.cons (.cst (.str "None")) .nil)))) (.not (.call 9 (.cons (.var 9) (.cons (.bi .repr (.tup (.cons (.cst (.str "later")) (.cons (.var 3) .nil)))) .nil)))) := by kernel_rfl
  have b := bare_ok (k + 1) P
  have l2 : ([D.str "later", D.str w]).length ≤ LIM := by show 2 ≤ LIM; unfold LIM; omega
  rw [e]
  refine or_no (call9 (ds := [.lst (errsOf .non), .str "None"]) ?_ (bare_none k P)) (call9 (ds := [.lst (errsOf (.tup [.str "later", .str w])), .str y]) ?_ (right_ok k _ y hy P))
  · simp only [evalEs, evalE, bndL, b, reO]
  · simp only [evalEs, evalE, rget, sl2, List.getElem?_cons_zero, List.getElem?_cons_succ, bndL, l2, if_true, bnd, biM, biD, hy, rok]
theorem e3b_ok (k : Nat) (w : Str) (pl th la : Slot) (d : D) (x : Str) (h : reprD d = some x) (P : Option Pu) : evalE (calls tab (k + 2)) e3b (sl2 w pl th (.cold (.str x)) (.cold (.lst (errsOf d))) (.cold (.lst (errsOf d))) la) P = some (.ok (.bl false) .cold P) := by
  have e : e3b = .or (.not (.call 9 (.cons (.var 7) (.cons (.var 6) .nil)))) (.not (.call 9 (.cons (.var 8) (.cons (.var 6) .nil)))) := by kernel_rfl
  have r := right_ok k d x h P
  rw [e]
  refine or_no (call9 (ds := [.lst (errsOf d), .str x]) ?_ r) (call9 (ds := [.lst (errsOf d), .str x]) ?_ r)
  · simp only [evalEs, evalE, rget, sl2, List.getElem?_cons_zero, List.getElem?_cons_succ]
  · simp only [evalEs, evalE, rget, sl2, List.getElem?_cons_zero, List.getElem?_cons_succ]
end B


/-! k01: the errors' thing by its identity, then by its data. -/
namespace B
open PySem PySem.Spec L2
theorem errs_sub {T : Tb} {G : Gh} {v : V} {d : D} (r : Rep T G d v) : ∀ (l : List Nat) {vs : List V}, RepL { T with raw := v } G (l.map fun c => .err c .raw) vs → RepL T G (l.map fun c => .err c d) vs
  | [], vs, h => by
    unfold RepL at h ⊢
    exact h
  | c :: l, vs, h => by
    rw [List.map_cons] at h ⊢
    unfold RepL at h ⊢
    obtain ⟨x, t, e, h1, h2⟩ := h
    refine ⟨x, t, e, ?_, errs_sub r l h2⟩
    unfold Rep at h1 ⊢
    obtain ⟨a, dx, w, e1, hc, g1, g2, rw1⟩ := h1
    unfold Rep at rw1
    exact ⟨a, dx, w, e1, hc, g1, g2, by rw [rw1]; exact r⟩
end B


/-! k01: the law's body, read whole. -/
namespace B
open PySem PySem.Spec L2
theorem fr_mk {T : Tb} {G : Gh} {P : Option Pu} {H : Hp} {σ : L2.St} {ρ : Sl} (sub : Same G.Hf H) (pu : PuOk G P H) (len : ρ.length = σ.length) (cold : ∀ (i : Nat) d, ρ[i]? = some (.cold d) → ∃ v, σ[i]? = some (some v) ∧ Rep T G d v) (own : ∀ (i : Nat) d, ρ[i]? ≠ some (.own d)) : Fr T ⟨H, G, []⟩ G P H σ ρ :=
  ⟨⟨sub, pu, len, cold, fun i d h => absurd h (own i d), fun i j d e a h => absurd h (own i d), fun b n => n⟩, Ext.refl sub, fun i v h => by simp at h⟩
theorem errs_mv {T : Tb} {G G' : Gh} (h : ∀ b o, G.Hf b = some o → ((∃ e C d, o = exo e C d) ∨ (∃ dx fs, o = exd dx fs)) → G'.Hf b = some o) : ∀ (l : List Nat) {vs : List V}, RepL T G (l.map fun c => .err c .raw) vs → RepL T G' (l.map fun c => .err c .raw) vs
  | [], vs, r => by
    unfold RepL at r ⊢
    exact r
  | c :: l, vs, r => by
    rw [List.map_cons] at r ⊢
    unfold RepL at r ⊢
    obtain ⟨x, t, e, h1, h2⟩ := r
    refine ⟨x, t, e, ?_, errs_mv h l h2⟩
    unfold Rep at h1 ⊢
    obtain ⟨a, dx, w, e1, hc, g1, g2, rw1⟩ := h1
    exact ⟨a, dx, w, e1, hc, h _ _ g1 (.inl ⟨_, _, _, rfl⟩), h _ _ g2 (.inr ⟨_, _, rfl⟩), by unfold Rep at rw1 ⊢; exact rw1⟩
theorem errs_len {d : D} : (errsOf d).length = 32 := by unfold errsOf; rw [List.length_map, List.length_range]
theorem errs_move {T : Tb} {G G' : Gh} (h : ∀ b o, G.Hf b = some o → ((∃ e C d, o = exo e C d) ∨ (∃ dx fs, o = exd dx fs)) → G'.Hf b = some o) (h2 : ∀ b vs, G.Hf b = some (.lst vs) → vs.length = 32 → G'.Hf b = some (.lst vs)) {v : V} (r : Rep T G (.lst (errsOf .raw)) v) : Rep T G' (.lst (errsOf .raw)) v := by
  unfold Rep at r ⊢
  obtain ⟨a, vs, e, q, rl⟩ := r
  exact ⟨a, vs, e, h2 _ _ q (by rw [rl.length, errs_len]), errs_mv h _ rl⟩
theorem errs_to {T : Tb} {G : Gh} {v u : V} {d : D} (r : Rep T G d v) (h : Rep { T with raw := v } G (.lst (errsOf .raw)) u) : Rep T G (.lst (errsOf d)) u := by
  unfold Rep at h ⊢
  obtain ⟨a, vs, e, q, rl⟩ := h
  exact ⟨a, vs, e, q, errs_sub r _ rl⟩
/-- what is known between the law's changes in place -/
structure Mid (T : Tb) (v : V) (w : Str) (d : D) (p0 L : Addr) (P : Option Pu) (lv : List V) (G : Gh) (H : Hp) (σ : L2.St) : Prop where
  sub : Same G.Hf H
  p : G.p = some p0
  pu : PuOk G P H
  len : σ.length = 11
  s1 : σ[1]? = some (some (.ref p0))
  s3 : σ[3]? = some (some (.str w))
  s5 : σ[5]? = some (some v)
  s7 : ∃ u, σ[7]? = some (some u) ∧ Rep { T with raw := v } G (.lst (errsOf .raw)) u
  s8 : ∃ u, σ[8]? = some (some u) ∧ Rep { T with raw := v } G (.lst (errsOf .raw)) u
  rd : Rep T G d v
  hL : H L = some (.lst lv)
  nL : G.Hf L = none
  pL : p0 ≠ L
section
variable {T : Tb} {K : PySem.W.Frag} {E : XK} {k : Nat} {v : V} {w : Str} {d d' : D} {p0 L : Addr} {P : Option Pu} {lv : List V} {G : Gh} {H : Hp} {σ : L2.St} {D : Ends}
theorem mid_end {x : Str} (M : Mid T v w d p0 L P lv G H σ) (hx : reprD d = some x) (h : ∀ σ' H', σ'.length = 11 → H' L = some (.lst lv) → D.nx σ' H') : tSsT T K (WE E) (calls tab (k + 2)) 0 g4 tNext D σ H := by
  obtain ⟨u7, e7, r7⟩ := M.s7
  obtain ⟨u8, e8, r8⟩ := M.s8
  refine ⟨⟨H, G, []⟩, G, sl2 w .no (.cold d) .no (.cold (.lst (errsOf d))) (.cold (.lst (errsOf d))) .no, P, _, fr_mk M.sub M.pu (by rw [M.len]; rfl) (fun i e hi => ?_) (fun i e hi => ?_), Nat.le_refl _, g4_ok k w .no .no .no d x hx P, fun σ' G' H' s F => h σ' H' ?_ ?_⟩
  · match i, hi with
    | 0, hi => cases hi
    | 1, hi => cases hi; exact ⟨_, M.s1, by unfold Rep; exact ⟨p0, M.p, rfl⟩⟩
    | 2, hi => cases hi
    | 3, hi => cases hi; exact ⟨_, M.s3, by unfold Rep; rfl⟩
    | 4, hi => cases hi
    | 5, hi => cases hi; exact ⟨_, M.s5, M.rd⟩
    | 6, hi => cases hi
    | 7, hi => cases hi; exact ⟨_, e7, errs_to M.rd r7⟩
    | 8, hi => cases hi; exact ⟨_, e8, errs_to M.rd r8⟩
    | 9, hi => cases hi
    | 10, hi => cases hi
    | n + 11, hi => simp [sl2, sl0, no11] at hi
  · match i, hi with
    | 0, hi => cases hi
    | 1, hi => cases hi
    | 2, hi => cases hi
    | 3, hi => cases hi
    | 4, hi => cases hi
    | 5, hi => cases hi
    | 6, hi => cases hi
    | 7, hi => cases hi
    | 8, hi => cases hi
    | 9, hi => cases hi
    | 10, hi => cases hi
    | n + 11, hi => simp [sl2, sl0, no11] at hi
  · rw [← F.st.len]; rfl
  · exact F.ext.keep L _ M.hL (by show G.p ≠ _; rw [M.p]; exact fun z => M.pL (Option.some.inj z))
theorem Mid.chg (M : Mid T v w d p0 L P lv G H σ) {a : Addr} {o o' : HO} (ha : G.Hf a = some o) (ho : (∃ vs, o = .lst vs ∧ vs.length ≠ 32) ∨ ∃ ks, o = .dK ks) (r : Rep T ⟨upd G.Hf a o', G.p⟩ d' v) : Mid T v w d' p0 L P lv ⟨upd G.Hf a o', G.p⟩ (upd H a o') σ := by
  obtain ⟨u7, e7, r7⟩ := M.s7
  obtain ⟨u8, e8, r8⟩ := M.s8
  have aL : L ≠ a := fun z => by have := M.nL; rw [z, ha] at this; cases this
  have m1 : ∀ b u, G.Hf b = some u → ((∃ e C d, u = exo e C d) ∨ (∃ dx fs, u = exd dx fs)) → (upd G.Hf a o') b = some u := fun b u e hu => by
    have nb : b ≠ a := fun z => by
      rw [z, ha] at e
      cases e
      rcases ho with ⟨vs, rfl, _⟩ | ⟨ks, rfl⟩ <;> rcases hu with ⟨_, _, _, z⟩ | ⟨_, _, z⟩ <;> cases z
    rw [upd_ne nb]; exact e
  have m2 : ∀ b vs, G.Hf b = some (.lst vs) → vs.length = 32 → (upd G.Hf a o') b = some (.lst vs) := fun b vs e hv => by
    have nb : b ≠ a := fun z => by
      rw [z, ha] at e
      cases e
      rcases ho with ⟨vs', z, h⟩ | ⟨ks, z⟩
      · cases z; exact h hv
      · cases z
    rw [upd_ne nb]; exact e
  refine ⟨fun b u e => ?_, M.p, PuOk.mk (fun b hb => ?_) fun hb => M.pu.no hb, M.len, M.s1, M.s3, M.s5, ⟨u7, e7, errs_move m1 m2 r7⟩, ⟨u8, e8, errs_move m1 m2 r8⟩, r, by rw [upd_ne aL]; exact M.hL, by show upd G.Hf a o' L = none; rw [upd_ne aL]; exact M.nL, M.pL⟩
  · have e : upd G.Hf a o' b = some u := e
    by_cases hb : b = a
    · rw [hb, upd_same] at e ⊢; exact e
    · rw [upd_ne hb] at e ⊢; exact M.sub _ _ e
  · obtain ⟨q, e1, e2, e3⟩ := M.pu.at (a := b) hb
    have nb : b ≠ a := fun z => by rw [z, ha] at e3; cases e3
    exact ⟨q, e1, by rw [upd_ne nb]; exact e2, by show upd G.Hf a o' b = none; rw [upd_ne nb]; exact e3⟩
/-! the three questions -/
theorem isi_at {m n : String} {b : Bool} {Q : Bool → Hp → Prop} (s5 : σ[5]? = some (some v)) (ty : TyX K H v (.type m)) (hk : kitB m n = some b) (h : Q b H) : tB (tCI K n) σ H Q :=
  ⟨v, s5, v, .ty n, .type m, .type n, b, rfl, .ty n, ty, kit_ty hk, b, rfl, h⟩
theorem if_no {c : TT} {A : TS} (h : c σ H = c σ H) (hc : ∀ Q : Bool → Hp → Prop, Q false H → c σ H Q) (hn : D.nx σ H) : tIfS c A tNext D σ H := hc _ (by rw [if_neg (by decide)]; exact hn)
theorem if_yes {c : TT} {A : TS} (hc : ∀ Q : Bool → Hp → Prop, Q true H → c σ H Q) (hn : A D σ H) : tIfS c A tNext D σ H := hc _ (by rw [if_pos rfl]; exact hn)
theorem app_at {o : TE} {l : Addr} {xs : List V} (ho : ∀ Q : VK, Q (.ref l) H → o σ H Q) (hl : H l = some (.lst xs)) (hz : xs.length < 1000) (h : D.nx σ (upd H l (.lst (xs ++ [.str "later"])))) : tApp K o D σ H :=
  ho _ ⟨.inl ⟨rfl, xs, .inl (.inl hl)⟩, l, xs, .str "later", rfl, rfl, hl, by rw [sizeLine_eq]; omega, h⟩
end
end B
namespace B
open PySem PySem.Spec L2
/-! the changed things have texts -/
def lt : D := .str "later"
def dL0 (w : Str) : List (D × D) := [(.str w, .lst [.str w, lt])]
def after (w : Str) : List D := [.lst [.str w, lt], .lst [.lst [.str w], .dct [(.str "odd", .str w)], lt], .tup [.str w, .lst [.str w, lt]], .dct [(.str w, .int 1)], .dct [(.str w, .lst [.str w, lt]), (.str "LATER", .int 1)]]
theorem after_repr {w : Str} (hw : Sm w) (hl : w.length ≤ 8) : ∀ d ∈ after w, ∃ x, reprD d = some x := by
  have hz : w.cps.size ≤ 8 := hl
  have e4 : (PyData.str w).leavesShort 13 = true := sm_all hw
  have e1 : (PyData.str (Str.ofString "later")).leavesShort 13 = true := by decide +kernel
  have e2 : (PyData.str (Str.ofString "odd")).leavesShort 13 = true := by decide +kernel
  have e3 : (PyData.int 1).leavesShort 13 = true := by decide +kernel
  have e5 : (PyData.str (Str.ofString "LATER")).leavesShort 13 = true := by decide +kernel
  have s3 : (PyData.int 1).showable = true := by decide +kernel
  have z1 : (Str.ofString "later").cps.size = 5 := by decide
  have z2 : (Str.ofString "odd").cps.size = 3 := by decide
  have z3 : (Str.ofString "LATER").cps.size = 5 := by decide
  have sl : (PyData.list [.str w, .str (Str.ofString "later")]).leavesShort 13 = true := by rw [PyData.leavesShort, PyData.leavesShortAll, PyData.leavesShortAll, PyData.leavesShortAll, e4, e1]; rfl
  have sl1 : (PyData.list [.str w]).leavesShort 13 = true := by rw [PyData.leavesShort, PyData.leavesShortAll, PyData.leavesShortAll, e4]; rfl
  have sd : (PyData.dict [(.str (Str.ofString "odd"), .str w)]).leavesShort 13 = true := by rw [PyData.leavesShort, PyData.leavesShortKv, PyData.leavesShortKv, e4, e2]; rfl
  intro d hd
  simp only [after, List.mem_cons, List.not_mem_nil, or_false] at hd
  rcases hd with rfl | rfl | rfl | rfl | rfl
  · exact ⟨_, reprD_of rfl rfl (by simp [PyData.depth, PyData.depthAll]) sl (by show w.cps.size + 1 + ((Str.ofString "later").cps.size + 1 + 0) ≤ 60000; omega)⟩
  · exact ⟨_, reprD_of rfl rfl (by simp [PyData.depth, PyData.depthAll, PyData.depthKv]) (by rw [PyData.leavesShort, PyData.leavesShortAll, PyData.leavesShortAll, PyData.leavesShortAll, PyData.leavesShortAll, sl1, sd, e1]; rfl) (by
      show (w.cps.size + 1 + 0) + 1 + ((((Str.ofString "odd").cps.size + w.cps.size + 2 + 0) + 1 + ((Str.ofString "later").cps.size + 1 + 0))) ≤ 60000
      omega)⟩
  · exact ⟨_, reprD_of rfl rfl (by simp [PyData.depth, PyData.depthAll]) (by rw [PyData.leavesShort, PyData.leavesShortAll, PyData.leavesShortAll, PyData.leavesShortAll, e4, sl]; rfl) (by
      show w.cps.size + 1 + ((w.cps.size + 1 + ((Str.ofString "later").cps.size + 1 + 0)) + 1 + 0) ≤ 60000
      omega)⟩
  · exact ⟨_, reprD_of rfl (by have := s3; simp only [PyData.showable, PyData.showableAll, PyData.showableKv] at this ⊢; simp [this]; decide +kernel) (by simp [PyData.depth, PyData.depthKv]) (by rw [PyData.leavesShort, PyData.leavesShortKv, PyData.leavesShortKv, e4, e3]; rfl) (by show w.cps.size + 0 + 2 + 0 ≤ 60000; omega)⟩
  · exact ⟨_, reprD_of rfl (by have := s3; simp only [PyData.showable, PyData.showableAll, PyData.showableKv] at this ⊢; simp [this]; decide +kernel) (by simp [PyData.depth, PyData.depthAll, PyData.depthKv]) (by rw [PyData.leavesShort, PyData.leavesShortKv, PyData.leavesShortKv, PyData.leavesShortKv, e4, e5, sl, e3]; rfl) (by
      show w.cps.size + (w.cps.size + 1 + ((Str.ofString "later").cps.size + 1 + 0)) + 2 + ((Str.ofString "LATER").cps.size + 0 + 2 + 0) ≤ 60000
      omega)⟩
section
variable {T : Tb} {K : PySem.W.Frag} {E : XK} {k : Nat} {v : V} {w : Str} {d d' : D} {p0 L : Addr} {P : Option Pu} {lv : List V} {G : Gh} {H : Hp} {σ : L2.St} {D0 : Ends}
def tRest (K : PySem.W.Frag) (T : Tb) (E : XK) (k : Nat) : TS := tSeq (tI1 K) (tSeq (tI2 K) (tSeq (tI3 K) (tSsT T K (WE E) (calls tab (k + 2)) 0 g4 tNext)))
theorem i1_no {m : String} {u : TS} (s5 : σ[5]? = some (some v)) (ty : TyX K H v (.type m)) (hk : kitB m "list" = some false) (h : u D0 σ H) : tSeq (tI1 K) u D0 σ H :=
  if_no (D := { D0 with nx := u D0 }) rfl (fun Q q => isi_at s5 ty hk q) h
theorem i2_no {m : String} {u : TS} (s5 : σ[5]? = some (some v)) (ty : TyX K H v (.type m)) (hk : kitB m "dict" = some false) (h : u D0 σ H) : tSeq (tI2 K) u D0 σ H :=
  if_no (D := { D0 with nx := u D0 }) rfl (fun Q q => isi_at s5 ty hk q) h
theorem i3_no {m : String} {u : TS} (s5 : σ[5]? = some (some v)) (ty : TyX K H v (.type m)) (hk : kitB m "tuple" = some false) (h : u D0 σ H) : tSeq (tI3 K) u D0 σ H :=
  if_no (D := { D0 with nx := u D0 }) rfl (fun Q q => isi_at s5 ty hk (by rw [if_neg (by decide)]; exact q)) h
theorem ix1_at {a : Addr} {vs : List V} {z : V} {Q : VK} (s5 : σ[5]? = some (some (.ref a))) (ha : H a = some (.tup vs)) (hz : atI vs 1 = some z) (q : Q z H) : tIx1 K σ H Q :=
  ⟨.ref a, s5, .inl (.inr (.inl ⟨a, vs, 1, z, rfl, rfl, .inl (.inl ha), hz, q⟩))⟩
theorem i3_no2 {m : String} {a : Addr} {vs : List V} {z : V} {u : TS} (s5 : σ[5]? = some (some (.ref a))) (ha : H a = some (.tup vs)) (hz : atI vs 1 = some z) (ty : TyX K H z (.type m)) (hk : kitB m "list" = some false) (h : u D0 σ H) : tSeq (tI3 K) u D0 σ H :=
  if_no (D := { D0 with nx := u D0 }) rfl (fun Q q => isi_at (b := true) s5 (.base (.tup ha)) (by decide +kernel) (by
    rw [if_pos rfl]
    exact ix1_at s5 ha hz ⟨z, .ty "list", .type m, .type "list", false, rfl, .ty "list", ty, kit_ty hk, false, rfl, q⟩)) h
theorem turn_no {m : String} {x : Str} (M : Mid T v w d p0 L P lv G H σ) (ty : TyX K H v (.type m)) (h1 : kitB m "list" = some false) (h2 : kitB m "dict" = some false) (h3 : kitB m "tuple" = some false) (hx : reprD d = some x) (h : ∀ σ' H', σ'.length = 11 → H' L = some (.lst lv) → D0.nx σ' H') : tRest K T E k D0 σ H :=
  i1_no M.s5 ty h1 (i2_no M.s5 ty h2 (i3_no M.s5 ty h3 (mid_end M hx h)))
theorem rep1 {x : Str} {vs : List V} : RepL T G [.str x] vs ↔ vs = [.str x] := by
  constructor
  · intro h
    unfold RepL RepL Rep at h
    obtain ⟨_, _, rfl, rfl, rfl⟩ := h
    rfl
  · rintro rfl
    unfold RepL RepL Rep
    exact ⟨_, _, rfl, rfl, rfl⟩
theorem rep2 {x y : Str} : RepL T G [.str x, .str y] [.str x, .str y] := by
  unfold RepL RepL RepL Rep
  exact ⟨_, _, rfl, rfl, _, _, rfl, rfl, rfl⟩
/-- a list of one text, changed -/
theorem turn_l1 (M : Mid T v w (.lst [.str w]) p0 L P lv G H σ) (hw : Sm w) (hl : w.length ≤ 8) (h : ∀ σ' H', σ'.length = 11 → H' L = some (.lst lv) → D0.nx σ' H') : tRest K T E k D0 σ H := by
  have rd := M.rd
  unfold Rep at rd
  obtain ⟨a, vs, rfl, ha, rl⟩ := rd
  have hvs := rep1.mp rl
  subst hvs
  obtain ⟨x, hx⟩ := after_repr hw hl (.lst [.str w, lt]) (by simp [after])
  have M2 := M.chg (o' := .lst [.str w, .str "later"]) (d' := .lst [.str w, lt]) ha (.inl ⟨_, rfl, Nat.ne_of_beq_eq_false rfl⟩) (by unfold Rep; exact ⟨a, _, rfl, upd_same, rep2⟩)
  have hA := M.sub _ _ ha
  refine if_yes (D := { D0 with nx := _ }) (fun Q q => isi_at M.s5 (.base (.lst hA)) (by decide +kernel) q) (app_at (fun Q q => ⟨_, M.s5, q⟩) hA (Nat.le_of_ble_eq_true rfl) ?_)
  exact i2_no M2.s5 (.base (.lst (upd_same (H := H)))) (by decide +kernel) (i3_no M2.s5 (.base (.lst (upd_same (H := H)))) (by decide +kernel) (mid_end M2 hx h))
/-- a list of a list and a dict -/
theorem turn_l2 (M : Mid T v w (.lst [.lst [.str w], .dct [(.str "odd", .str w)]]) p0 L P lv G H σ) (hw : Sm w) (hl : w.length ≤ 8) (h : ∀ σ' H', σ'.length = 11 → H' L = some (.lst lv) → D0.nx σ' H') : tRest K T E k D0 σ H := by
  have rd := M.rd
  unfold Rep at rd
  obtain ⟨a, vs, rfl, ha, rl⟩ := rd
  unfold RepL at rl
  obtain ⟨v1, r1, rfl, q1, rl⟩ := rl
  unfold RepL at rl
  obtain ⟨v2, r2, rfl, q2, rl⟩ := rl
  unfold RepL at rl
  subst rl
  obtain ⟨x, hx⟩ := after_repr hw hl (.lst [.lst [.str w], .dct [(.str "odd", .str w)], lt]) (by simp [after])
  have M2 := M.chg (o' := .lst [v1, v2, .str "later"]) (d' := .lst [.lst [.str w], .dct [(.str "odd", .str w)], lt]) ha (.inl ⟨_, rfl, Nat.ne_of_beq_eq_false rfl⟩) (by
    unfold Rep at q1 q2
    obtain ⟨b, ws, rfl, hb, rb⟩ := q1
    obtain ⟨c, rfl, hc⟩ := q2
    have hws := rep1.mp rb
    subst hws
    have nb : b ≠ a := fun z => by rw [z, ha] at hb; cases hb
    unfold Rep
    refine ⟨a, _, rfl, upd_same, ?_⟩
    unfold RepL
    refine ⟨_, _, rfl, ?_, ?_⟩
    · unfold Rep
      exact ⟨b, _, rfl, by show upd G.Hf a _ b = _; rw [upd_ne nb]; exact hb, rep1.mpr rfl⟩
    unfold RepL
    refine ⟨_, _, rfl, ?_, ?_⟩
    · unfold Rep
      rcases hc with ⟨ks, hc, rk⟩ | ⟨ks, hc, rk⟩
      · have nc : c ≠ a := fun z => by rw [z, ha] at hc; cases hc
        refine ⟨c, rfl, .inl ⟨ks, by show upd G.Hf a _ c = _; rw [upd_ne nc]; exact hc, ?_⟩⟩
        unfold RepK RepK Rep at rk ⊢
        exact rk
      · unfold RepT at rk
        obtain ⟨_, _, _, _, z, _⟩ := rk
        cases z
    unfold RepL RepL Rep
    exact ⟨_, _, rfl, rfl, rfl⟩)
  have hA := M.sub _ _ ha
  refine if_yes (D := { D0 with nx := _ }) (fun Q q => isi_at M.s5 (.base (.lst hA)) (by decide +kernel) q) (app_at (fun Q q => ⟨_, M.s5, q⟩) hA (Nat.le_of_ble_eq_true rfl) ?_)
  exact i2_no M2.s5 (.base (.lst (upd_same (H := H)))) (by decide +kernel) (i3_no M2.s5 (.base (.lst (upd_same (H := H)))) (by decide +kernel) (mid_end M2 hx h))
/-- a tuple of a text and a list -/
theorem turn_t2 (M : Mid T v w (.tup [.str w, .lst [.str w]]) p0 L P lv G H σ) (hw : Sm w) (hl : w.length ≤ 8) (h : ∀ σ' H', σ'.length = 11 → H' L = some (.lst lv) → D0.nx σ' H') : tRest K T E k D0 σ H := by
  have rd := M.rd
  unfold Rep at rd
  obtain ⟨a, vs, rfl, ha, rl⟩ := rd
  unfold RepL at rl
  obtain ⟨v1, r1, rfl, q1, rl⟩ := rl
  unfold RepL at rl
  obtain ⟨v2, r2, rfl, q2, rl⟩ := rl
  unfold RepL at rl
  subst rl
  unfold Rep at q1 q2
  subst q1
  obtain ⟨b, ws, rfl, hb, rb⟩ := q2
  have hws := rep1.mp rb
  subst hws
  have na : a ≠ b := fun z => by rw [← z, ha] at hb; cases hb
  obtain ⟨x, hx⟩ := after_repr hw hl (.tup [.str w, .lst [.str w, lt]]) (by simp [after])
  have M2 := M.chg (o' := .lst [.str w, .str "later"]) (d' := .tup [.str w, .lst [.str w, lt]]) hb (.inl ⟨_, rfl, Nat.ne_of_beq_eq_false rfl⟩) (by
    unfold Rep
    refine ⟨a, _, rfl, by show upd G.Hf b _ a = _; rw [upd_ne na]; exact ha, ?_⟩
    unfold RepL
    refine ⟨_, _, rfl, by unfold Rep; rfl, ?_⟩
    unfold RepL
    refine ⟨_, _, rfl, ?_, by unfold RepL; rfl⟩
    unfold Rep
    exact ⟨b, _, rfl, upd_same, rep2⟩)
  have hA := M.sub _ _ ha
  have hB := M.sub _ _ hb
  refine i1_no M.s5 (.base (.tup hA)) (by decide +kernel) (i2_no M.s5 (.base (.tup hA)) (by decide +kernel) ?_)
  refine if_yes (D := { D0 with nx := _ }) (fun Q q => isi_at (b := true) M.s5 (.base (.tup hA)) (by decide +kernel) ?_) (app_at (fun Q q => ix1_at M.s5 hA rfl q) hB (Nat.le_of_ble_eq_true rfl) ?_)
  · rw [if_pos rfl]
    exact ix1_at M.s5 hA rfl ⟨_, .ty "list", .type "list", .type "list", true, rfl, .ty "list", .base (.lst hB), kit_ty (by decide +kernel), true, rfl, q⟩
  · exact mid_end M2 hx h
/-- a dict of a list -/
theorem turn_d (M : Mid T v w (.dct [(.str w, .lst [.str w])]) p0 L P lv G H σ) (hw : Sm w) (hl : w.length ≤ 8) (h : ∀ σ' H', σ'.length = 11 → H' L = some (.lst lv) → D0.nx σ' H') : tRest K T E k D0 σ H := by
  have rd := M.rd
  unfold Rep at rd
  obtain ⟨a, rfl, ⟨ks, ha, rk⟩ | ⟨ks, ha, rk⟩⟩ := rd
  rotate_left
  · unfold RepT at rk
    obtain ⟨_, _, _, _, z, _⟩ := rk
    cases z
  unfold RepK at rk
  obtain ⟨kk, v1, t, rfl, ek, q1, rk⟩ := rk
  unfold RepK at rk
  subst rk
  cases ek
  unfold Rep at q1
  obtain ⟨b, ws, rfl, hb, rb⟩ := q1
  have hws := rep1.mp rb
  subst hws
  have na : a ≠ b := fun z => by rw [← z, ha] at hb; cases hb
  have hA := M.sub _ _ ha
  have hB := M.sub _ _ hb
  have M1 := M.chg (o' := .lst [.str w, .str "later"]) (d' := .dct (dL0 w)) hb (.inl ⟨_, rfl, Nat.ne_of_beq_eq_false rfl⟩) (by
    unfold Rep
    refine ⟨a, rfl, .inl ⟨_, by show upd G.Hf b _ a = _; rw [upd_ne na]; exact ha, ?_⟩⟩
    show RepK _ _ [(.str w, .lst [.str w, lt])] _
    unfold RepK
    refine ⟨_, _, _, rfl, rfl, ?_, by unfold RepK; rfl⟩
    unfold Rep
    exact ⟨b, _, rfl, upd_same, rep2⟩)
  have ha1 : upd G.Hf b (.lst [.str w, .str "later"]) a = some (.dK [(.inr w, .ref b)]) := by rw [upd_ne na]; exact ha
  have hA1 := M1.sub _ _ ha1
  have M2 := M1.chg (o' := .dK (putK [(.inr w, .ref b)] (.inr "LATER") (.int 1))) (d' := .dct (putKv (.inl (.inr "LATER")) (.str "LATER") (.int 1) (dL0 w))) ha1 (.inr ⟨_, rfl⟩) (by
    unfold Rep
    refine ⟨a, rfl, .inl ⟨_, upd_same, RepK.put ?_ rfl (by unfold Rep; rfl)⟩⟩
    show RepK _ _ [(.str w, .lst [.str w, lt])] _
    unfold RepK
    refine ⟨_, _, _, rfl, rfl, ?_, by unfold RepK; rfl⟩
    unfold Rep
    exact ⟨b, _, rfl, by show upd (upd G.Hf b _) a _ b = _; rw [upd_ne na.symm]; exact upd_same, rep2⟩)
  have hx : ∃ x, reprD (.dct (putKv (.inl (.inr "LATER")) (.str "LATER") (.int 1) (dL0 w))) = some x := by
    by_cases hz : w = "LATER"
    · have e : putKv (.inl (.inr "LATER")) (.str "LATER") (.int 1) (dL0 w) = [(.str w, .int 1)] := by rw [hz]; rfl
      rw [e]
      exact after_repr hw hl _ (by simp [after])
    · have e : putKv (.inl (.inr "LATER")) (.str "LATER") (.int 1) (dL0 w) = [(.str w, .lst [.str w, lt]), (.str "LATER", .int 1)] := by
        have e0 : (D.str w).kd = some (.inl (.inr w)) := rfl
        simp [putKv, dL0, e0, hz]
      rw [e]
      exact after_repr hw hl _ (by simp [after])
  obtain ⟨x, hx⟩ := hx
  refine i1_no M.s5 (.base (.dK hA)) (by decide +kernel) ?_
  refine if_yes (D := { D0 with nx := _ }) (fun Q q => isi_at M.s5 (.base (.dK hA)) (by decide +kernel) q) ?_
  refine app_at (D := { D0 with nx := _ }) (fun Q q => ⟨_, M.s5, _, M.s3, .inr ⟨a, .ref b, rfl, .inl ⟨_, .inr w, .inl hA, rfl, (valV_pos (p := (Sum.inr w, V.ref b)) (r := []) (k := Sum.inr w) rfl).symm⟩, q⟩⟩) hB (Nat.le_of_ble_eq_true rfl) ?_
  refine ⟨_, M1.s5, a, _, rfl, DPut.k (k := .inr "LATER") hA1 (by show 1 < sizeLine; rw [sizeLine_eq]; decide), ?_⟩
  exact i3_no M2.s5 (.base (.dK (upd_same (a := a)))) (by decide +kernel) (mid_end M2 hx h)
theorem mid_turn {b : Int} (M : Mid T v w d p0 L P lv G H σ) (hd : d ∈ cand w b) (hw : Sm w) (hl : w.length ≤ 8) (hb : b.natAbs < 10 ^ 12) (h : ∀ σ' H', σ'.length = 11 → H' L = some (.lst lv) → D0.nx σ' H') : tRest K T E k D0 σ H := by
  obtain ⟨x, hx⟩ := cand_repr hw hl hb d hd
  have rd := M.rd
  simp only [cand, List.mem_cons, List.not_mem_nil, or_false] at hd
  rcases hd with rfl | rfl | rfl | rfl | rfl | rfl | rfl | rfl | rfl | rfl | rfl
  · unfold Rep at rd; subst rd; exact turn_no M (.base .non) (by decide +kernel) (by decide +kernel) (by decide +kernel) hx h
  · unfold Rep at rd; subst rd; exact turn_no M (.base (.bl _)) (by decide +kernel) (by decide +kernel) (by decide +kernel) hx h
  · unfold Rep at rd; subst rd; exact turn_no M (.base (.bl _)) (by decide +kernel) (by decide +kernel) (by decide +kernel) hx h
  · unfold Rep at rd; subst rd; exact turn_no M (.base (.int _)) (by decide +kernel) (by decide +kernel) (by decide +kernel) hx h
  · unfold Rep at rd; subst rd; exact turn_no M (.base (.str _)) (by decide +kernel) (by decide +kernel) (by decide +kernel) hx h
  · unfold Rep at rd; subst rd; exact turn_no M (.base (.int _)) (by decide +kernel) (by decide +kernel) (by decide +kernel) hx h
  · unfold Rep at rd
    obtain ⟨a, vs, rfl, ha, rl⟩ := rd
    obtain ⟨z, hz, rz⟩ := rl.get (i := 1) rfl
    unfold Rep at rz
    subst rz
    have hA := M.sub _ _ ha
    have hz1 : atI vs 1 = some (.str w) := by
      unfold atI ixN
      rw [rl.length]
      exact hz
    exact i1_no M.s5 (.base (.tup hA)) (by decide +kernel) (i2_no M.s5 (.base (.tup hA)) (by decide +kernel) (i3_no2 M.s5 hA hz1 (.base (.str _)) (by decide +kernel) (mid_end M hx h)))
  · exact turn_t2 M hw hl h
  · exact turn_d M hw hl h
  · exact turn_l1 M hw hl h
  · exact turn_l2 M hw hl h
end
end B
namespace B
open PySem PySem.Spec L2
section
variable {T : Tb} {K : PySem.W.Frag} {E : XK} {k : Nat} {v : V} {w : Str} {d d' : D} {p0 L : Addr} {P P' : Option Pu} {lv : List V} {G G' : Gh} {H H' : Hp} {σ : L2.St} {D0 : Ends}
theorem Mid.ext (M : Mid T v w d p0 L P lv G H σ) (x : Ext G H G' H') (pu : PuOk G' P' H') : Mid T v w d p0 L P' lv G' H' σ := by
  obtain ⟨u7, e7, r7⟩ := M.s7
  obtain ⟨u8, e8, r8⟩ := M.s8
  refine ⟨x.sub, x.p.trans M.p, pu, M.len, M.s1, M.s3, M.s5, ⟨u7, e7, Rep.mono x.hf x.p _ r7⟩, ⟨u8, e8, Rep.mono x.hf x.p _ r8⟩, Rep.mono x.hf x.p _ M.rd, x.keep L _ M.hL (by rw [M.p]; exact fun z => M.pL (Option.some.inj z)), ?_, M.pL⟩
  cases q : G'.Hf L with
  | none => rfl
  | some o =>
    rcases x.new L o q with z | z
    · rw [M.nL] at z; cases z
    · rw [M.hL] at z; cases z
theorem keepL (x : Ext G H G' H') (hL : H L = some (.lst lv)) (nL : G.Hf L = none) (pL : G.p ≠ some L) : H' L = some (.lst lv) ∧ G'.Hf L = none := by
  refine ⟨x.keep L _ hL pL, ?_⟩
  cases q : G'.Hf L with
  | none => rfl
  | some o =>
    rcases x.new L o q with z | z
    · rw [nL] at z; cases z
    · rw [hL] at z; cases z
theorem rep_tupstr {T' : Tb} {a b : Str} {u : V} (r : Rep T' G (.tup [.str a, .str b]) u) : Rep T G (.tup [.str a, .str b]) u := by
  unfold Rep RepL RepL RepL Rep at r ⊢
  exact r
theorem errs_free {e : D} (he : ∀ u, Rep { T with raw := v } G e u → Rep T G e u) : ∀ (l : List Nat) {vs : List V}, RepL { T with raw := v } G (l.map fun c => .err c e) vs → RepL T G (l.map fun c => .err c e) vs
  | [], vs, h => by
    unfold RepL at h ⊢
    exact h
  | c :: l, vs, h => by
    rw [List.map_cons] at h ⊢
    unfold RepL at h ⊢
    obtain ⟨x, t, e1, h1, h2⟩ := h
    refine ⟨x, t, e1, ?_, errs_free he l h2⟩
    unfold Rep at h1 ⊢
    obtain ⟨a, dx, w, e1, hc, g1, g2, rw1⟩ := h1
    exact ⟨a, dx, w, e1, hc, g1, g2, he _ rw1⟩
/-- a test that is false -/
theorem test_no {e : B.E} {A u : TS} {ρ : Sl} {Hen : Hp} (S : StOk T Hen G P H σ ρ) (ev : evalE (calls tab k) e ρ P = some (.ok (.bl false) .cold P)) (h : ∀ G' H', Ext G H G' H' → PuOk G' P H' → u D0 σ H') : tSeq (tIfS (tT T K (WE E) (calls tab k) e) A tNext) u D0 σ H :=
  ⟨Hen, G, ρ, P, _, S, ev, fun v' G' H' x pu rr => ⟨false, rr.bl, iteF (h G' H' x pu)⟩⟩
theorem t_turn_ok (k : Nat) {q : Pu} (hc : q.c = 0) (hb : q.b.natAbs < 10 ^ 12) (hσ : σ.length = 11) (s1 : σ[1]? = some (some (.ref p0))) (hp : H p0 = some (.lst (puVs q))) (hL : H L = some (.lst lv)) (pL : p0 ≠ L)
    (h : ∀ σ' H', σ'.length = 11 → H' L = some (.lst lv) → D0.nx σ' H') : t_turn K T (calls tab (k + 3)) E D0 σ H := by
  obtain ⟨w, d, x, P1, e1, hw, hl, hd, hx⟩ := g1_ok k q (by omega) (by omega) hb
  refine ⟨⟨H, ⟨fun _ => none, some p0⟩, []⟩, ⟨fun _ => none, some p0⟩, sl0, some q, _, fr_mk (fun b o e => by cases e) (PuOk.mk (fun a ha => ?_) fun z => by cases z) (by rw [hσ]; rfl) (fun i d' hi => ?_) (fun i d' hi => ?_), Nat.le_refl _, e1, fun σ1 G1 H1 _ F1 => ?_⟩
  · cases ha
    exact ⟨q, rfl, hp, rfl⟩
  · match i, hi with
    | 0, hi => cases hi
    | 1, hi => cases hi; exact ⟨_, s1, by unfold Rep; exact ⟨p0, rfl, rfl⟩⟩
    | 2, hi => cases hi
    | 3, hi => cases hi
    | 4, hi => cases hi
    | 5, hi => cases hi
    | 6, hi => cases hi
    | 7, hi => cases hi
    | 8, hi => cases hi
    | 9, hi => cases hi
    | 10, hi => cases hi
    | n + 11, hi => simp [sl2, sl0, no11] at hi
  · match i, hi with
    | 0, hi => cases hi
    | 1, hi => cases hi
    | 2, hi => cases hi
    | 3, hi => cases hi
    | 4, hi => cases hi
    | 5, hi => cases hi
    | 6, hi => cases hi
    | 7, hi => cases hi
    | 8, hi => cases hi
    | 9, hi => cases hi
    | 10, hi => cases hi
    | n + 11, hi => simp [sl2, sl0, no11] at hi
  obtain ⟨v, v5, rd⟩ := F1.st.cold 5 d rfl
  obtain ⟨u1, v1, r1⟩ := F1.st.cold 1 .pur rfl
  obtain ⟨u3, v3, r3⟩ := F1.st.cold 3 (.str w) rfl
  obtain ⟨u6, v6, r6⟩ := F1.st.cold 6 (.str x) rfl
  obtain ⟨hL1, nL1⟩ := keepL F1.ext hL rfl (by intro z; exact pL (Option.some.inj z))
  have p1 : G1.p = some p0 := F1.ext.p
  have len1 : σ1.length = 11 := by rw [← F1.st.len]; rfl
  refine ⟨v, ⟨H1, G1, []⟩, G1, sl2 w .no (.cold .raw) (.cold (.str x)) .no .no .no, some P1, _, fr_mk F1.st.sub F1.st.pu (by rw [len1]; rfl) (fun i d' hi => ?_) (fun i d' hi => ?_), Nat.le_refl _, g2_ok (k + 2) w .no (.cold (.str x)) (some P1), fun σ2 G2 H2 _ F2 => ?_⟩
  · match i, hi with
    | 0, hi => cases hi
    | 1, hi => cases hi; exact ⟨_, v1, by unfold Rep at r1 ⊢; exact r1⟩
    | 2, hi => cases hi
    | 3, hi => cases hi; exact ⟨_, v3, by unfold Rep at r3 ⊢; exact r3⟩
    | 4, hi => cases hi
    | 5, hi => cases hi; exact ⟨_, v5, by unfold Rep; rfl⟩
    | 6, hi => cases hi; exact ⟨_, v6, by unfold Rep at r6 ⊢; exact r6⟩
    | 7, hi => cases hi
    | 8, hi => cases hi
    | 9, hi => cases hi
    | 10, hi => cases hi
    | n + 11, hi => simp [sl2, sl0, no11] at hi
  · match i, hi with
    | 0, hi => cases hi
    | 1, hi => cases hi
    | 2, hi => cases hi
    | 3, hi => cases hi
    | 4, hi => cases hi
    | 5, hi => cases hi
    | 6, hi => cases hi
    | 7, hi => cases hi
    | 8, hi => cases hi
    | 9, hi => cases hi
    | 10, hi => cases hi
    | n + 11, hi => simp [sl2, sl0, no11] at hi
  have rd2 : Rep T G2 d v := Rep.mono F2.ext.hf F2.ext.p d rd
  obtain ⟨hL2, nL2⟩ := keepL F2.ext hL1 nL1 (by show G1.p ≠ _; rw [p1]; exact fun z => pL (Option.some.inj z))
  have p2 : G2.p = some p0 := F2.ext.p.trans p1
  have len2 : σ2.length = 11 := by rw [← F2.st.len]; rfl
  obtain ⟨u1', w1, q1⟩ := F2.st.cold 1 .pur rfl
  obtain ⟨u3', w3, q3⟩ := F2.st.cold 3 (.str w) rfl
  obtain ⟨u5', w5, q5⟩ := F2.st.cold 5 .raw rfl
  obtain ⟨u6', w6, q6⟩ := F2.st.cold 6 (.str x) rfl
  obtain ⟨u7', w7, q7⟩ := F2.st.cold 7 (.lst (errsOf .raw)) rfl
  obtain ⟨u8', w8, q8⟩ := F2.st.cold 8 (.lst (errsOf .raw)) rfl
  obtain ⟨u9', w9, q9⟩ := F2.st.cold 9 (.lst (errsOf (.tup [.str "later", .str w]))) rfl
  unfold Rep at q1 q3 q5 q6
  obtain ⟨p', hp', rfl⟩ := q1
  have ep : p' = p0 := by rw [p2] at hp'; exact (Option.some.inj hp').symm
  subst ep
  subst q3 q6
  rw [q5] at w5
  have M : Mid T v w d p' L (some P1) lv G2 H2 σ2 := ⟨F2.st.sub, p2, F2.st.pu, len2, w1, w3, w5, ⟨_, w7, q7⟩, ⟨_, w8, q8⟩, rd2, hL2, nL2, pL⟩
  have q9' : Rep T G2 (.lst (errsOf (.tup [.str "later", .str w]))) u9' := by
    unfold Rep at q9 ⊢
    obtain ⟨a, vs, e, q, rl⟩ := q9
    exact ⟨a, vs, e, q, errs_free (fun u => rep_tupstr) _ rl⟩
  have S3 : StOk T H2 G2 (some P1) H2 σ2 (sl2 w .no .no .no .no .no (.cold (.lst (errsOf (.tup [.str "later", .str w]))))) := (fr_mk F2.st.sub F2.st.pu (by rw [len2]; rfl) (fun i d' hi => by
    match i, hi with
    | 0, hi => cases hi
    | 1, hi => cases hi; exact ⟨_, w1, by unfold Rep; exact ⟨_, p2, rfl⟩⟩
    | 2, hi => cases hi
    | 3, hi => cases hi; exact ⟨_, w3, by unfold Rep; rfl⟩
    | 4, hi => cases hi
    | 5, hi => cases hi
    | 6, hi => cases hi
    | 7, hi => cases hi
    | 8, hi => cases hi
    | 9, hi => cases hi; exact ⟨_, w9, q9'⟩
    | 10, hi => cases hi
    | n + 11, hi => simp [sl2, sl0, no11] at hi) (fun i d' hi => by
    match i, hi with
    | 0, hi => cases hi
    | 1, hi => cases hi
    | 2, hi => cases hi
    | 3, hi => cases hi
    | 4, hi => cases hi
    | 5, hi => cases hi
    | 6, hi => cases hi
    | 7, hi => cases hi
    | 8, hi => cases hi
    | 9, hi => cases hi
    | 10, hi => cases hi
    | n + 11, hi => simp [sl2, sl0, no11] at hi)).st
  refine test_no S3 (e3a_ok (k + 1) w hw hl .no .no .no .no .no (some P1)) fun G3 H3 x3 pu3 => ?_
  have M3 := M.ext x3 pu3
  have S4 : StOk T H3 G3 (some P1) H3 σ2 (sl2 w .no .no (.cold (.str x)) (.cold (.lst (errsOf d))) (.cold (.lst (errsOf d))) .no) := (fr_mk M3.sub M3.pu (by rw [len2]; rfl) (fun i d' hi => by
    obtain ⟨y7, z7, t7⟩ := M3.s7
    obtain ⟨y8, z8, t8⟩ := M3.s8
    match i, hi with
    | 0, hi => cases hi
    | 1, hi => cases hi; exact ⟨_, w1, by unfold Rep; exact ⟨_, M3.p, rfl⟩⟩
    | 2, hi => cases hi
    | 3, hi => cases hi; exact ⟨_, w3, by unfold Rep; rfl⟩
    | 4, hi => cases hi
    | 5, hi => cases hi
    | 6, hi => cases hi; exact ⟨_, w6, by unfold Rep; rfl⟩
    | 7, hi => cases hi; exact ⟨_, z7, errs_to M3.rd t7⟩
    | 8, hi => cases hi; exact ⟨_, z8, errs_to M3.rd t8⟩
    | 9, hi => cases hi
    | 10, hi => cases hi
    | n + 11, hi => simp [sl2, sl0, no11] at hi) (fun i d' hi => by
    match i, hi with
    | 0, hi => cases hi
    | 1, hi => cases hi
    | 2, hi => cases hi
    | 3, hi => cases hi
    | 4, hi => cases hi
    | 5, hi => cases hi
    | 6, hi => cases hi
    | 7, hi => cases hi
    | 8, hi => cases hi
    | 9, hi => cases hi
    | 10, hi => cases hi
    | n + 11, hi => simp [sl2, sl0, no11] at hi)).st
  refine test_no S4 (e3b_ok (k + 1) w .no .no .no d x hx (some P1)) fun G4 H4 x4 pu4 => ?_
  exact mid_turn (k := k + 1) (M3.ext x4 pu4) hd hw hl hb h
end
def spLaw (K : PySem.W.Frag) : Sp := fun vs H Q _ => ∃ (a : Addr) (ns : List Int), vs = [.ref a] ∧ SqL K H a (ns.map V.int) ∧ ∀ H', Q (.bl true) H'
theorem purses_one (ns : List Int) : purses ns 1 = 1 := by
  unfold purses
  split <;> split <;> first | rfl | omega
theorem pure_law {T : Tb} {K : PySem.W.Frag} {E : XK} (k : Nat) (vs : List V) (H : Hp) (Q : VK) (h : spLaw K vs H Q E) :
    t_law K T (calls tab (k + 3)) E { nx := fun _ H' => Q .non H', rt := Q } (L2.start ["_law_script", "_law_purse_here", "_law_rest", "_law_word_here", "_law_plain", "_law_thing", "_law_noted", "_law_some", "_law_called_here", "_law_later", "_law_error"] vs) H := by
  obtain ⟨a, ns, rfl, hS, hQ⟩ := h
  refine ⟨_, rfl, a, ns, 1, rfl, by decide, by decide, hS, fun H1 L ps s1 hlen hps nd nL hL => ⟨L, rfl, ⟨_, SqL.of hL⟩, ?_⟩⟩
  rw [purses_one] at hlen
  match ps, hlen with
  | [p0], _ =>
    obtain ⟨hp, _, pL⟩ := hps 0 p0 rfl
    refine for_list (xs := [.ref p0]) (fun i σ H' => σ.length = 11 ∧ H' L = some (.lst [.ref p0]) ∧ (i = 0 → H' p0 = some (.lst (puVs (purseOf ns 0))))) ⟨rfl, hL, fun _ => hp⟩ (fun i σ H' _ ⟨_, h2, _⟩ => SqL.of h2) (fun i x σ H' hx ⟨h1, h2, h3⟩ => ?_) fun σ H' ⟨h1, h2, _⟩ => ?_
    · have hi : i = 0 := by
        cases i with
        | zero => rfl
        | succ i => simp at hx
      subst hi
      cases hx
      refine t_turn_ok k (q := purseOf ns 0) (p0 := p0) (L := L) rfl ?_ (by rw [List.length_set]; exact h1) ?_ (h3 rfl) h2 pL fun σ' H'' g1 g2 => ⟨g1, g2, fun z => by cases z⟩
      · show (seedOf ns 0 % 2147483629).natAbs < 10 ^ 12
        have := Int.emod_nonneg (seedOf ns 0) (show (2147483629 : Int) ≠ 0 by decide)
        have := Int.emod_lt_of_pos (seedOf ns 0) (show (0 : Int) < 2147483629 by decide)
        omega
      · rw [List.getElem?_set_self (by omega)]
    · refine ⟨⟨H', ⟨fun _ => none, none⟩, []⟩, ⟨fun _ => none, none⟩, no11, none, _, fr_none (by rw [h1]; rfl) (fun i d' hi => ?_) (fun i d' hi => ?_), Nat.le_refl _, g5_ok (k + 2), fun v G' H'' x pu rr => ?_⟩
      · match i, hi with
        | 0, hi => cases hi
        | 1, hi => cases hi
        | 2, hi => cases hi
        | 3, hi => cases hi
        | 4, hi => cases hi
        | 5, hi => cases hi
        | 6, hi => cases hi
        | 7, hi => cases hi
        | 8, hi => cases hi
        | 9, hi => cases hi
        | 10, hi => cases hi
        | n + 11, hi => simp [sl2, sl0, no11] at hi
      · match i, hi with
        | 0, hi => cases hi
        | 1, hi => cases hi
        | 2, hi => cases hi
        | 3, hi => cases hi
        | 4, hi => cases hi
        | 5, hi => cases hi
        | 6, hi => cases hi
        | 7, hi => cases hi
        | 8, hi => cases hi
        | 9, hi => cases hi
        | 10, hi => cases hi
        | n + 11, hi => simp [sl2, sl0, no11] at hi
      · rw [rr.bl]
        exact hQ H''
end B


/-! A law's end where its promise asks that no repr is under way. -/
namespace B
open PySem PySem.Spec PyProof.Rows L2
section
variable {P : Program} {w : World} {K : PySem.W.Frag} {mg mb : Str → Option Value} {H : Hp} {s₁ : Shared} {a : Addr}
/-- the state at the law's call: nothing but the object at a may be tracked -/
theorem env_at (KX : K.In s₁.heap) (hns : s₁.heap.Ns mainGlobals mg) (hb : s₁.heap.Ns builtinsNs mb) (hbb : ∀ x : Str, x ≠ "__name__" → mb x = bootBuiltins x) (hlim : s₁.heap.NoLimit) (hg : s₁.gens = #[])
    {vs : List Value} (ha : s₁.heap.get? a = some { cls := .type "list", data := .seq vs.toArray }) (hok : HOk P w H s₁.heap) (h1 : ∀ b, H b ≠ none → b = a) (h2 : H a ≠ none → K.lookup a = none) :
    K.In (hidT s₁.heap H) ∧ (hidT s₁.heap H).Ns mainGlobals mg ∧ Env0 P w K mg (hidT s₁.heap H) callerA [] s₁ H := by
  have kin : K.In (hidT s₁.heap H) := fun b o e => by
    refine hidT_get (KX b o e) ?_
    cases q : H b with
    | none => rfl
    | some u =>
      have hba : b = a := h1 b (by rw [q]; exact fun z => nomatch z)
      rw [hba] at e q
      rw [h2 (by rw [q]; exact fun z => nomatch z)] at e
      cases e
  have ns : ∀ {b : Addr} {m : Str → Option Value}, s₁.heap.Ns b m → (hidT s₁.heap H).Ns b m := fun {b m} n => by
    obtain ⟨o, es, ep, e, d, r⟩ := n
    refine ⟨o, es, ep, hidT_get e ?_, d, r⟩
    cases q : H b with
    | none => rfl
    | some u =>
      have hba : b = a := h1 b (by rw [q]; exact fun z => nomatch z)
      rw [hba, ha] at e
      injection e with e
      rw [← e] at d
      exact nomatch d
  obtain ⟨mc, l1, l2⟩ := hlim
  exact ⟨kin, ns hns, ⟨rfl, ⟨kin, ns hns, ⟨mb, ns hb, hbb⟩, ⟨mc, ns l1, l2⟩⟩, fun b o e => of_hidT e, Nat.le_of_eq (hidT_size _ _), trivial, (fun b hb => by cases hb), hok, AllBare.of_eq hg⟩⟩
/-- how the law's call ends -/
theorem end_at {CX : CXT} {r : Result} {s' : Shared} (hok : HOk P w H s₁.heap) (hO : Only H) (hCX : ∀ e s', CX [] H s₁ (fun _ _ _ => False) e s' → False) (h : CR CX [] P w H s₁ (fun v _ => v = .bl true) (fun _ _ _ => False) r s') :
    r = .ok (.ret (.bool true)) ∧ OldK s₁.heap s'.heap ∧ s'.os = s₁.os ∧ AllBare s'.gens := by
  match r, h with
  | .error e, h => exact (hCX e s' h).elim
  | .ok (.ret u), h =>
    obtain ⟨v, H', os, bare, un, hok', rv, q⟩ := h
    have q : v = .bl true := q
    rw [q] at rv
    have eu : u = Value.bool true := rv
    refine ⟨by rw [eu], OldK.of_keep fun b o e => ?_, os, bare⟩
    cases hb : H b with
    | none => exact un.keep b o e hb (fun z => by cases z) (fun z => by cases z)
    | some u =>
      rcases hO b with z | ⟨ob, xs, z⟩
      · rw [hb] at z
        exact nomatch z
      · have e1 := (hok b _ z).1
        have e2 := (hok' b _ (un.frzs b ob _ z)).1
        rw [e] at e1
        rw [e2, ← e1]
end
theorem walk_ofG {l : PySem.W.OpenLaw} {n k : Nat} {q : Program} {loose : List Str} {XP : (Str → Option Value) → Heap → Prop} {YP : World → Heap → Prop} {d : DefRec} {CX : World → CXT} {x : Str}
    (hn : l.most = some n) (hn2 : n ≤ sizeLine) (hdf : d.params.defaults = []) (hr : Room k callerA) (hgd : callerA.guards = some [])
    (F : ∀ (w : World) (mg : Str → Option Value) (fa : Addr) (h : Heap), YP w h → h.Ns mainGlobals mg → mg d.name = some (.ref fa) →
      ∃ (K : PySem.W.Frag) (fd : FuncData) (sp : Sp), K.In h ∧ (∀ (s : Shared) (u : Value), K.In s.heap → BindsTo s fd ⟨[u], []⟩ [(x, u)]) ∧
        (∀ (H : Hp) (a : Addr) (ns : List Int), ns.length ≤ n → SqL K H a (ns.map V.int) → sp [.ref a] H (fun v _ => v = .bl true) fun _ _ _ => False) ∧
        ∀ base : Heap, K.In base → base.Ns mainGlobals mg → FnG l.prog w K mg base (CX w) k fa fd [x] sp)
    (hCX : ∀ (w : World) (H : Hp) (s : Shared) (e : Value) (s' : Shared), CX w [] H s (fun _ _ _ => False) e s' → False) : PySem.W.WalkO q loose XP YP l.row.toRowW d [] (fun f vs => PySem.call f vs) := by
  refine Att.attach_call hn hdf fun w s₀ s₁ mg mb fa o pm cd doc a vs ns G Y ho hd hcd hmg hobj hints hlen hg => ?_
  obtain ⟨K, fd, sp, KX, hb, hsp, hF⟩ := F w mg fa _ Y G.T.g hmg
  have rv := vals_ints hints
  have hl : (ns.map V.int).length ≤ sizeLine := by rw [List.length_map]; exact Nat.le_trans hlen hn2
  have go : ∀ H : Hp, Only H → SqL K H a (ns.map V.int) → HOk l.prog w H s₁.heap → (∀ b, H b ≠ none → b = a) → (H a ≠ none → K.lookup a = none) →
      codeAny (model l.prog w) callerA (.call (.ref fa) ⟨[.ref a], []⟩) (fun r s' => r = .ok (.ret (.bool true)) ∧ OldK s₁.heap s'.heap ∧ s'.os = s₁.os ∧ AllBare s'.gens) s₁ := fun H hO hS hok h1 h2 => by
    obtain ⟨kb, nb, e0⟩ := env_at KX G.T.g G.T.b G.T.builtins G.T.nolimit hg hobj hok h1 h2
    exact codeAny_mono ((hF _ kb nb).run callerA [] s₁ H ⟨[.ref a], []⟩ [.ref a] [.ref a] _ _ hr hgd e0 (hb s₁ (.ref a) KX) (.cons rfl .nil) (hsp H a ns hlen hS)) fun r s' h => end_at hok hO (hCX w H s₁) h
  cases hk : K.lookup a with
  | some o =>
    have e := (KX a o hk).symm.trans hobj
    injection e with e
    subst e
    exact go (fun _ => none) (fun b => .inl rfl) (.inr ⟨_, vs.toArray, _, hk, rfl, rfl, rfl, by rw [List.size_toArray, ← rv.length]; exact hl, by simpa using rv⟩) (fun b u z => nomatch z) (fun b z => (z rfl).elim) fun z => (z rfl).elim
  | none =>
    have at_a : (fun b => if b = a then some (HO.frz { cls := .type "list", data := .seq vs.toArray } (.lst (ns.map V.int))) else none : Hp) a = some (.frz { cls := .type "list", data := .seq vs.toArray } (.lst (ns.map V.int))) := if_pos rfl
    refine go (fun b => if b = a then some (HO.frz { cls := .type "list", data := .seq vs.toArray } (.lst (ns.map V.int))) else none) (fun b => ?_) (.inl (.inr ⟨_, at_a⟩)) (fun b u z => ?_) (fun b z => ?_) fun _ => hk
    · by_cases hb : b = a
      · rw [hb]; exact .inr ⟨_, _, at_a⟩
      · exact .inl (if_neg hb)
    · by_cases hb : b = a
      · rw [hb] at z ⊢
        rw [at_a] at z
        injection z with z
        rw [← z]
        exact ⟨hobj, hl, vs, _, rv, hobj⟩
      · exact nomatch (if_neg hb).symm.trans z
    · by_cases hb : b = a
      · exact hb
      · exact (z (if_neg hb)).elim
end B


/-! What the head tells: classes of errors, defs. -/
namespace B
open PySem PySem.Spec PyProof.Rows L2
open He (ga ma eqO eqO_ok ba)
open PySem.HandSPX (refsVE)
/-- a function's text, whatever it closes over -/
abbrev Fx : Type := Option (Str × Str × Arguments × FuncBody × Scope × Addr × Addr)
def fx (K : PySem.W.Frag) (a : Addr) : Fx := match K.lookup a with
  | some ⟨_, _, .func fd, _⟩ => some (fd.name, fd.qualname, fd.params, fd.body, fd.scope, fd.globals, fd.builtins)
  | _ => none
def fxOf (x q : Str) (st : Stmt) : Fx := some (x, q, defArgs st, .stmts (defBody st), defScope st, mainGlobals, builtinsNs)
/-! ### a def of the top -/
def defB (K : PySem.W.Frag) (x : Str) : Bool := eqO (PySem.W.nsIn K mainGlobals x) (some (some (.ref (ga K x)))) && (PySem.W.keepIn K (.ref (ga K x)) && match K.lookup (ga K x) with
  | some ⟨_, _, .func fd, _⟩ => fd.closure.isEmpty && (PySem.W.codeIn K fd.code x && match fd.defaults with
    | .none => true
    | _ => false)
  | _ => false)
theorem def_fun {K : PySem.W.Frag} {x : Str} {st : Stmt} (h : defB K x = true) (e : fx K (ga K x) = fxOf x x st) : ∃ fd, Fun K x x st (ga K x) fd := by
  obtain ⟨_, h⟩ := ba h
  obtain ⟨kp, h⟩ := ba h
  unfold fx at e
  cases q : K.lookup (ga K x) with
  | none => rw [q] at h; cases h
  | some o =>
    obtain ⟨oc, od, dt, osl⟩ := o
    rw [q] at h e
    cases dt with
    | func fd =>
      obtain ⟨n1, n2, n3, n4, n5, n6, n7, n8, n9, n10, n11, n12, n13, n14, n15⟩ := fd
      obtain ⟨h1, h⟩ := ba h
      obtain ⟨h2, h3⟩ := ba h
      dsimp only at h1 h2 h3 e
      unfold fxOf at e
      simp only [Option.some.injEq, Prod.mk.injEq] at e
      obtain ⟨e1, e2, e3, e4, e5, e6, e7⟩ := e
      subst e1 e2 e3 e4 e5 e6 e7
      cases n7 with
      | cons a b => cases h1
      | nil =>
        cases n8 with
        | none => exact ⟨_, ⟨oc, od, n9, n10, n11, n12, n13, n14, osl, rfl, q, h2⟩, kp⟩
        | _ => cases h3
    | _ => cases h
theorem def_glo {K : PySem.W.Frag} {h : Heap} {mg : Str → Option Value} {x : Str} (X : K.In h) (G : h.Ns mainGlobals mg) (c : defB K x = true) : mg x = some (.ref (ga K x)) := PySem.W.mg_of X G (eqO_ok (ba c).1)
def freeB (K : PySem.W.Frag) (x : Str) : Bool := eqO (PySem.W.nsIn K mainGlobals x) (some none)
theorem free_at {K : PySem.W.Frag} {h : Heap} {mg : Str → Option Value} {x : Str} (X : K.In h) (G : h.Ns mainGlobals mg) (c : freeB K x = true) : mg x = none := PySem.W.mg_none_of X G (eqO_ok c)
/-! ### classes of errors -/
def eqV (a b : Option Value) : Bool := decide (a = b)
def eqT (a b : Option Bool) : Bool := decide (a = b)
theorem eqV_ok {a b : Option Value} (h : eqV a b = true) : a = b := of_decide_eq_true h
theorem eqT_ok {a b : Option Bool} (h : eqT a b = true) : a = b := of_decide_eq_true h
def excB (K : PySem.W.Frag) (C : Addr) : Bool := eqO (PySem.W.findIn K (.ref C) "__getattribute__") (some (some (.builtin "BaseException.__getattribute__"))) && (eqO (PySem.W.findIn K (.ref C) "__getattr__") (some none) && (eqT (PySem.W.subIn K (.ref C) (.type "BaseException")) (some true) && (PySem.W.hasDictIn K C &&
  (eqO (PySem.W.findIn K (.ref C) "__class__") (some (some (.builtin "object.__class__"))) && (eqO (PySem.W.specialIn K (.builtin "object.__class__") "__get__") (some (some (.builtin "getset_descriptor.__get__"))) && (eqT (PySem.W.takesIn K (.builtin "object.__class__")) (some true) && eqT (PySem.W.mroIn K C (.type "object")) (some true)))))))
theorem exc_at {K : PySem.W.Frag} {C : Addr} (h : excB K C = true) : ExcC K C := by
  obtain ⟨a, h⟩ := ba h
  obtain ⟨b, h⟩ := ba h
  obtain ⟨c, h⟩ := ba h
  obtain ⟨d, h⟩ := ba h
  obtain ⟨e, h⟩ := ba h
  obtain ⟨f, h⟩ := ba h
  obtain ⟨g, i⟩ := ba h
  exact ⟨eqO_ok a, eqO_ok b, eqT_ok c, d, eqO_ok e, eqO_ok f, eqT_ok g, eqT_ok i⟩
def clsB (K : PySem.W.Frag) (C : Addr) : Bool := match K.lookup C with
  | some ⟨.type t, _, .cls cd, sl⟩ => decide (t = "type") && (match cd.mro, sl.toList with
    | .ref C' :: bm, [_, _, _, _, some (.builtin n), _] => decide (C' = C) && (decide (n = "ValueError.__new__") && (!cd.hasDel && (cd.hasDict && refsVE bm)))
    | _, _ => false)
  | _ => false
theorem cls_at {K : PySem.W.Frag} {C : Addr} (h : clsB K C = true) : ∃ nm q N bs bm sn sub ab col dd k0 k1 k2 k3 k5, K.lookup C = some (excClassObj nm q C N bs bm true sn sub ab col dd k0 k1 k2 k3 k5 "ValueError.__new__") ∧ refsVE bm = true := by
  unfold clsB at h
  split at h
  · rename_i t dd cd sl ho
    obtain ⟨h1, h⟩ := ba h
    split at h
    · rename_i C' bm k0 k1 k2 k3 n k5 hm hs
      obtain ⟨h2, h⟩ := ba h
      obtain ⟨h3, h⟩ := ba h
      obtain ⟨h4, h⟩ := ba h
      obtain ⟨h5, h6⟩ := ba h
      obtain ⟨nm, bs, mro, ns, qn, hd, sn, sub, ab, col, del⟩ := cd
      obtain ⟨l⟩ := sl
      dsimp only at hm hs h4 h5
      have h1 := of_decide_eq_true h1
      have h2 := of_decide_eq_true h2
      have h3 := of_decide_eq_true h3
      subst h1 h2 h3 hm hs h5
      cases del with
      | true => cases h4
      | false => exact ⟨nm, qn, ns, bs, bm, sn, sub, ab, col, dd, k0, k1, k2, k3, k5, ho, h6⟩
    · cases h
  · cases h
/-- the def __init__ of the class at C -/
def iniB (file : Str) (K : PySem.W.Frag) (C fI : Addr) (q : Str) : Bool := match K.lookup fI with
  | some ⟨_, _, .func fd, _⟩ => (match fd.closure, fd.code with
    | [(n, cc)], .ref cda => decide (n = "__class__") && (PySem.W.codeIn K (.ref cda) q && (He.dflB K fd.defaults [.non] && ((match K.lookup cda with
      | some ⟨_, _, .fields vs, _⟩ => (match vs[2]? with
        | some (Value.str f _) => file == f
        | _ => false)
      | _ => false) && (match K.lookup cc with
      | some ⟨_, _, .cell (some (.ref C')), _⟩ => decide (C' = C)
      | _ => false))))
    | _, _ => false)
  | _ => false
/-- the text of such a def: from the row -/
structure IniT (st : Stmt) : Prop where
  ex : ∃ p1 p2 p3 q1 q2 q3 q4 q5 q6 q7 q8 q9 : Pos, defArgs st = VX.iA p1 p2 p3 ∧ defBody st = VX.iB q1 q2 q3 q4 q5 q6 q7 q8 q9 ∧ defScope st = VX.iS ∧ (q3.endLine == q4.line) = true
theorem ini_at {P : Program} {K : PySem.W.Frag} {C fI : Addr} {q : Str} {st : Stmt} (h : iniB P.main.file K C fI q = true) (e : fx K fI = fxOf "__init__" q st) (t : IniT st) : ∃ fd, VX.FnAt P K C fI fd := by
  obtain ⟨p1, p2, p3, q1, q2, q3, q4, q5, q6, q7, q8, q9, t1, t2, t3, t4⟩ := t.ex
  unfold fx at e
  unfold iniB at h
  cases lk : K.lookup fI with
  | none => rw [lk] at h; cases h
  | some o =>
    obtain ⟨oc, od, dt, osl⟩ := o
    rw [lk] at h e
    cases dt with
    | func fd =>
      obtain ⟨n1, n2, n3, n4, n5, n6, n7, n8, n9, n10, n11, n12, n13, n14, n15⟩ := fd
      dsimp only at h e
      unfold fxOf at e
      rw [t1, t2, t3] at e
      simp only [Option.some.injEq, Prod.mk.injEq] at e
      obtain ⟨e1, e2, e3, e4, e5, e6, e7⟩ := e
      subst e1 e2 e3 e4 e5 e6 e7
      split at h
      · rename_i n cc cda
        obtain ⟨h1, h⟩ := ba h
        obtain ⟨h2, h⟩ := ba h
        obtain ⟨h3, h⟩ := ba h
        obtain ⟨h4, h5⟩ := ba h
        have h1 := of_decide_eq_true h1
        subst h1
        refine ⟨_, ⟨oc, od, osl, n2, p1, p2, p3, q1, q2, q3, q4, q5, q6, q7, q8, q9, n8, n9, n10, n11, n12, cda, n14, cc, rfl, lk, h2, ?_, ?_, He.dflB_ok h3, t4⟩⟩
        · split at h4
          · rename_i c1 d1 vs s1 l1
            split at h4
            · rename_i f tf hv
              exact ⟨c1, d1, vs, f, tf, s1, l1, hv, h4⟩
            · cases h4
          · cases h4
        · split at h5
          · rename_i c1 d1 C' s1 l1
            have h5 := of_decide_eq_true h5
            subst h5
            exact ⟨c1, d1, s1, l1⟩
          · cases h5
      · cases h
    | _ => cases h
def errB (file : Str) (K : PySem.W.Frag) (x : Str) : Bool :=
  let C := ga K x
  let fI := ma K C "__init__"
  eqO (PySem.W.nsIn K mainGlobals x) (some (some (.ref C))) && (PySem.W.keepIn K (.ref C) && (excB K C && (clsB K C && (eqO (PySem.W.findIn K (.ref C) "__setattr__") (some (some (.builtin "object.__setattr__"))) && (eqO (PySem.W.findIn K (.ref C) "value") (some none) && (eqO (PySem.W.findIn K (.ref C) "__init__") (some (some (.ref fI))) &&
  (eqV (PySem.W.typeIn K (.ref fI)) (some (.type "function")) && (eqO (PySem.W.ks_superIn K C C "__init__") (some (some (.builtin "ValueError.__init__"))) && iniB file K C fI (x ++ ".__init__")))))))))
theorem err_at {P : Program} {K : PySem.W.Frag} {mg : Str → Option Value} {x : Str} {st : Stmt} (h : errB P.main.file K x = true) (e : fx K (ma K (ga K x) "__init__") = fxOf "__init__" (x ++ ".__init__") st) (t : IniT st) (third : PySem.W.nsIn K cStatics "thirdparty.any" = some none)
    (ns : mg "super" = none) (tp : (P.main.scope.names.lookup ("super" : Str)).isSome = false) : ErrC P K mg (ga K x) := by
  unfold errB at h
  obtain ⟨_, h⟩ := ba h
  obtain ⟨kp, h⟩ := ba h
  obtain ⟨ex, h⟩ := ba h
  obtain ⟨cl, h⟩ := ba h
  obtain ⟨sa, h⟩ := ba h
  obtain ⟨nv, h⟩ := ba h
  obtain ⟨ic, h⟩ := ba h
  obtain ⟨ti, h⟩ := ba h
  obtain ⟨su, ii⟩ := ba h
  obtain ⟨fd, F⟩ := ini_at ii e t
  exact ⟨⟨_, fd, ⟨cls_at cl, eqO_ok sa, eqO_ok nv, eqO_ok ic, eqV_ok ti, eqO_ok su, third, F, ns, tp⟩⟩, kp, exc_at ex⟩
theorem err_glo {K : PySem.W.Frag} {h : Heap} {mg : Str → Option Value} {x file : Str} (X : K.In h) (G : h.Ns mainGlobals mg) (c : errB file K x = true) : mg x = some (.ref (ga K x)) := PySem.W.mg_of X G (eqO_ok (ba c).1)
def erzB (K : PySem.W.Frag) (x : Str) : Bool :=
  let C := ga K x
  eqO (PySem.W.nsIn K mainGlobals x) (some (some (.ref C))) && (PySem.W.keepIn K (.ref C) && (excB K C && (PySem.W.excInitIn K C PySem.HandSPX.veTail "ValueError.__new__" && eqO (PySem.W.findIn K (.ref C) "__init__") (some (some (.builtin "ValueError.__init__"))))))
theorem erz_at {K : PySem.W.Frag} {x : Str} (h : erzB K x = true) : ErrZ K (ga K x) := by
  unfold erzB at h
  obtain ⟨_, h⟩ := ba h
  obtain ⟨kp, h⟩ := ba h
  obtain ⟨ex, h⟩ := ba h
  obtain ⟨q, ic⟩ := ba h
  exact ⟨eqO_ok ic, q, kp, exc_at ex⟩
theorem erz_glo {K : PySem.W.Frag} {h : Heap} {mg : Str → Option Value} {x : Str} (X : K.In h) (G : h.Ns mainGlobals mg) (c : erzB K x = true) : mg x = some (.ref (ga K x)) := PySem.W.mg_of X G (eqO_ok (ba c).1)
/-! ### which class is a kind of which -/
def clsV (K : PySem.W.Frag) (y : Str) : Value := if y = "ValueError" then .type "ValueError" else .ref (ga K y)
def iscB (K : PySem.W.Frag) (en zn : List Str) (t : Str × List Nat × List Nat) : Bool := (if t.1 = "ValueError" then freeB K t.1 else eqO (PySem.W.nsIn K mainGlobals t.1) (some (some (.ref (ga K t.1))))) &&
  ((List.range en.length).all (fun i => eqT (PySem.W.kitOne K (.ref (ga K (en.getD i ""))) (clsV K t.1)) (some (t.2.1.contains i))) && (List.range zn.length).all fun i => eqT (PySem.W.kitOne K (.ref (ga K (zn.getD i ""))) (clsV K t.1)) (some (t.2.2.contains i)))
theorem isc_at {K : PySem.W.Frag} {h : Heap} {mg : Str → Option Value} {T : Tb} {en zn : List Str} {t : Str × List Nat × List Nat} (X : K.In h) (G : h.Ns mainGlobals mg) (c : iscB K en zn t = true) (hn : T.ne = en.length) (hz : T.nz = zn.length) (he : T.ecl = fun i => ga K (en.getD i "")) (hze : T.zcl = fun i => ga K (zn.getD i "")) : IsC K mg T t.1 t.2.1 t.2.2 := by
  obtain ⟨c1, c⟩ := ba c
  obtain ⟨c2, c3⟩ := ba c
  refine ⟨clsV K t.1, ?_, fun i hi => ?_, fun i hi => ?_⟩
  · unfold clsV
    by_cases hy : t.1 = "ValueError"
    · rw [if_pos hy] at c1 ⊢
      rw [hy] at c1 ⊢
      exact .inr ⟨_, rfl, free_at X G c1, by decide +kernel, by decide⟩
    · rw [if_neg hy] at c1 ⊢
      exact .inl ⟨_, rfl, PySem.W.mg_of X G (eqO_ok c1)⟩
  · rw [he]
    exact eqT_ok (List.all_eq_true.mp c2 i (List.mem_range.mpr (by rw [← hn]; exact hi)))
  · rw [hze]
    exact eqT_ok (List.all_eq_true.mp c3 i (List.mem_range.mpr (by rw [← hz]; exact hi)))
/-! ### the Hook -/
/-- what a law asks of the head: a test over the written part, functions (where, name, qualified name, text) -/
structure Ask where
  test : PySem.W.Frag → Bool
  fns : List ((PySem.W.Frag → Addr) × Fx)
abbrev AlB : Type := Bool × List Fx
def Ask.obs (a : Ask) (K : PySem.W.Frag) : AlB := (a.test K, a.fns.map fun f => fx K (f.1 K))
def Ask.val (a : Ask) : AlB := (true, a.fns.map (·.2))
def asB (g : Addr → Option Obj) : List Addr := He.asD g 4 ++ [cStatics, sysModules]
def Ask.obsG (a : Ask) (g : Addr → Option Obj) : AlB := a.obs (He.frG g (asB g))
def Ask.Says (a : Ask) (K : PySem.W.Frag) : Prop := a.obs K = a.val
def hookB (a : Ask) : PySem.W.Hook where
  α := AlB
  obs := fun s => a.obsG s.heap.get?
  val := fun _ => a.val
  says := fun _ h => ∃ K : PySem.W.Frag, K.In h ∧ a.Says K
  of := fun _ _ e => ⟨_, He.frG_in, e⟩
  keeps := fun _ _ _ ⟨K, hK, c⟩ k => ⟨K, PySem.W.Frag.In.keeps hK k, c⟩
theorem obsB_eq {a : Ask} {g : Addr → Option Obj} {s : Shared} (h : ∀ b, g b = s.heap.get? b) : a.obsG g = (hookB a).obs s := by
  have e : g = s.heap.get? := funext h
  rw [e]
  rfl
theorem Ask.Says.t {a : Ask} {K : PySem.W.Frag} (c : a.Says K) : a.test K = true := congrArg (fun z : AlB => z.1) c
theorem Ask.Says.f {a : Ask} {K : PySem.W.Frag} (c : a.Says K) (i : Nat) {p : PySem.W.Frag → Addr} {v : Fx} (h : a.fns[i]? = some (p, v)) : fx K (p K) = v := by
  have e : a.fns.map (fun f => fx K (f.1 K)) = a.fns.map (·.2) := congrArg (fun z : AlB => z.2) c
  have e2 : (a.fns.map fun f => fx K (f.1 K))[i]? = (a.fns.map (·.2))[i]? := by rw [e]
  rw [List.getElem?_map, List.getElem?_map, h] at e2
  exact Option.some.inj e2
end B


/-! k01: what the head tells, the end. -/
namespace B
open PySem PySem.Spec PyProof.Rows L2
open He (ga ma eqO eqO_ok ba)
def dnm : List Str := (["_law_mixed", "_law_draw", "_law_one_of", "_law_word", "_law_first", "_law_called", "_law_bare", "_law_code", "_law_is_error", "_law_right"] : List Str)
def dn2 : List Str := (["_law_mixed", "_law_draw", "_law_one_of", "_law_word", "_law_first", "_law_called", "_law_bare", "_law_code", "_law_is_error", "_law_right", "_law_purse", "_law_purses", "law"] : List Str)
def frees : List Str := (["all", "dict", "int", "isinstance", "len", "list", "max", "min", "range", "repr", "sum", "tuple", "super"] : List Str)
def eix : List Nat := ([2, 3, 4, 5, 6, 7, 8, 9, 10, 11, 12, 13, 14, 15, 16, 17, 18, 19, 20, 21, 22, 23, 24, 25, 26, 27, 28, 29, 30, 31] : List Nat) ++ ([32, 33] : List Nat)
def tblR (K : PySem.W.Frag) (raw : V) : Tb := { nc := 0, cls := fun _ => 0, flds := fun _ => [], fad := fun i => ga K (dnm.getD i ""), raw := raw, ne := 32, ecl := fun i => ga K (enm.getD i ""), nz := 3, zcl := fun i => ga K (znm.getD i "") }
def cIni (st : Stmt) : Stmt := match st with
  | .ClassDef _ _ _ body _ _ _ _ _ _ _ => body.getD 0 (.Pass ⟨0, 0, 0, 0⟩)
  | s => s
def smB (K : PySem.W.Frag) : Bool := match K.lookup sysModules with
  | some ⟨.type t, _, _, _⟩ => decide (t = "dict")
  | _ => false
theorem sm_at {K : PySem.W.Frag} (h : smB K = true) : ∃ o, K.lookup sysModules = some o ∧ o.cls = .type "dict" := by
  unfold smB at h
  split at h
  · rename_i e
    exact ⟨_, e, congrArg Value.type (of_decide_eq_true h)⟩
  · cases h
abbrev PR : Program := PySem.Challenge.rw_logcores_k01_errors_made.prog
def askT (K : PySem.W.Frag) : Bool := (enm.all fun x => errB PR.main.file K x) && ((znm.all fun x => erzB K x) && ((dn2.all fun x => defB K x) && ((frees.all fun x => freeB K x) && ((isl.all fun t => iscB K enm znm t) && (eqO (PySem.W.nsIn K cStatics "thirdparty.any") (some none) && smB K)))))
def ask : Ask where
  test := askT
  fns := [(fun K => ga K "_law_mixed", fxOf "_law_mixed" "_law_mixed" (top 38)), (fun K => ga K "_law_draw", fxOf "_law_draw" "_law_draw" (top 39)), (fun K => ga K "_law_one_of", fxOf "_law_one_of" "_law_one_of" (top 41)), (fun K => ga K "_law_word", fxOf "_law_word" "_law_word" (top 42)), (fun K => ga K "_law_first", fxOf "_law_first" "_law_first" (top 43)), (fun K => ga K "_law_called", fxOf "_law_called" "_law_called" (top 44)), (fun K => ga K "_law_bare", fxOf "_law_bare" "_law_bare" (top 45)), (fun K => ga K "_law_code", fxOf "_law_code" "_law_code" (top 46)), (fun K => ga K "_law_is_error", fxOf "_law_is_error" "_law_is_error" (top 47)), (fun K => ga K "_law_right", fxOf "_law_right" "_law_right" (top 48)), (fun K => ga K "_law_purse", fxOf "_law_purse" "_law_purse" (top 37)), (fun K => ga K "_law_purses", fxOf "_law_purses" "_law_purses" (top 40)), (fun K => ga K "law", fxOf "law" "law" (top 49))] ++ (List.range 32).map fun i => (fun K => ma K (ga K (enm.getD i "")) "__init__", fxOf "__init__" (enm.getD i "" ++ ".__init__") (cIni (top (eix.getD i 0))))
theorem Ask.Says.m {a : Ask} {K : PySem.W.Frag} (c : a.Says K) {p : PySem.W.Frag → Addr} {v : Fx} (h : (p, v) ∈ a.fns) : fx K (p K) = v := by
  obtain ⟨i, hi⟩ := List.getElem?_of_mem h
  exact c.f i hi
theorem ini_all : ∀ i, i < 32 → IniT (cIni (top (eix.getD i 0)))
  | 0, _ => ⟨⟨_, _, _, _, _, _, _, _, _, _, _, _, rfl, rfl, rfl, rfl⟩⟩
  | 1, _ => ⟨⟨_, _, _, _, _, _, _, _, _, _, _, _, rfl, rfl, rfl, rfl⟩⟩
  | 2, _ => ⟨⟨_, _, _, _, _, _, _, _, _, _, _, _, rfl, rfl, rfl, rfl⟩⟩
  | 3, _ => ⟨⟨_, _, _, _, _, _, _, _, _, _, _, _, rfl, rfl, rfl, rfl⟩⟩
  | 4, _ => ⟨⟨_, _, _, _, _, _, _, _, _, _, _, _, rfl, rfl, rfl, rfl⟩⟩
  | 5, _ => ⟨⟨_, _, _, _, _, _, _, _, _, _, _, _, rfl, rfl, rfl, rfl⟩⟩
  | 6, _ => ⟨⟨_, _, _, _, _, _, _, _, _, _, _, _, rfl, rfl, rfl, rfl⟩⟩
  | 7, _ => ⟨⟨_, _, _, _, _, _, _, _, _, _, _, _, rfl, rfl, rfl, rfl⟩⟩
  | 8, _ => ⟨⟨_, _, _, _, _, _, _, _, _, _, _, _, rfl, rfl, rfl, rfl⟩⟩
  | 9, _ => ⟨⟨_, _, _, _, _, _, _, _, _, _, _, _, rfl, rfl, rfl, rfl⟩⟩
  | 10, _ => ⟨⟨_, _, _, _, _, _, _, _, _, _, _, _, rfl, rfl, rfl, rfl⟩⟩
  | 11, _ => ⟨⟨_, _, _, _, _, _, _, _, _, _, _, _, rfl, rfl, rfl, rfl⟩⟩
  | 12, _ => ⟨⟨_, _, _, _, _, _, _, _, _, _, _, _, rfl, rfl, rfl, rfl⟩⟩
  | 13, _ => ⟨⟨_, _, _, _, _, _, _, _, _, _, _, _, rfl, rfl, rfl, rfl⟩⟩
  | 14, _ => ⟨⟨_, _, _, _, _, _, _, _, _, _, _, _, rfl, rfl, rfl, rfl⟩⟩
  | 15, _ => ⟨⟨_, _, _, _, _, _, _, _, _, _, _, _, rfl, rfl, rfl, rfl⟩⟩
  | 16, _ => ⟨⟨_, _, _, _, _, _, _, _, _, _, _, _, rfl, rfl, rfl, rfl⟩⟩
  | 17, _ => ⟨⟨_, _, _, _, _, _, _, _, _, _, _, _, rfl, rfl, rfl, rfl⟩⟩
  | 18, _ => ⟨⟨_, _, _, _, _, _, _, _, _, _, _, _, rfl, rfl, rfl, rfl⟩⟩
  | 19, _ => ⟨⟨_, _, _, _, _, _, _, _, _, _, _, _, rfl, rfl, rfl, rfl⟩⟩
  | 20, _ => ⟨⟨_, _, _, _, _, _, _, _, _, _, _, _, rfl, rfl, rfl, rfl⟩⟩
  | 21, _ => ⟨⟨_, _, _, _, _, _, _, _, _, _, _, _, rfl, rfl, rfl, rfl⟩⟩
  | 22, _ => ⟨⟨_, _, _, _, _, _, _, _, _, _, _, _, rfl, rfl, rfl, rfl⟩⟩
  | 23, _ => ⟨⟨_, _, _, _, _, _, _, _, _, _, _, _, rfl, rfl, rfl, rfl⟩⟩
  | 24, _ => ⟨⟨_, _, _, _, _, _, _, _, _, _, _, _, rfl, rfl, rfl, rfl⟩⟩
  | 25, _ => ⟨⟨_, _, _, _, _, _, _, _, _, _, _, _, rfl, rfl, rfl, rfl⟩⟩
  | 26, _ => ⟨⟨_, _, _, _, _, _, _, _, _, _, _, _, rfl, rfl, rfl, rfl⟩⟩
  | 27, _ => ⟨⟨_, _, _, _, _, _, _, _, _, _, _, _, rfl, rfl, rfl, rfl⟩⟩
  | 28, _ => ⟨⟨_, _, _, _, _, _, _, _, _, _, _, _, rfl, rfl, rfl, rfl⟩⟩
  | 29, _ => ⟨⟨_, _, _, _, _, _, _, _, _, _, _, _, rfl, rfl, rfl, rfl⟩⟩
  | 30, _ => ⟨⟨_, _, _, _, _, _, _, _, _, _, _, _, rfl, rfl, rfl, rfl⟩⟩
  | 31, _ => ⟨⟨_, _, _, _, _, _, _, _, _, _, _, _, rfl, rfl, rfl, rfl⟩⟩
  | n + 32, h => absurd h (by omega)
section
variable {w : World} {K : PySem.W.Frag} {h : Heap} {mg : Str → Option Value} {fa : Addr}
theorem got {l : List Str} {i : Nat} {x : Str} (e : l[i]? = some x) : l.getD i "" = x := by rw [List.getD_eq_getElem?_getD, e]; rfl
theorem facts (X : K.In h) (G : h.Ns mainGlobals mg) (hfa : mg ("law" : Str) = some (.ref fa)) (c : ask.Says K) :
    ∃ fd : FuncData, (∀ (s : Shared) (u : Value), K.In s.heap → BindsTo s fd ⟨[u], []⟩ [("_law_script", u)]) ∧ ∀ base : Heap, K.In base → base.Ns mainGlobals mg → FnG PR w K mg base (L2.CX PR w) 4 fa fd ["_law_script"] (spLaw K) := by
  have t0 : askT K = true := c.t
  unfold askT at t0
  obtain ⟨t1, t⟩ := ba t0
  obtain ⟨t2, t⟩ := ba t
  obtain ⟨t3, t⟩ := ba t
  obtain ⟨t4, t⟩ := ba t
  obtain ⟨t5, t⟩ := ba t
  obtain ⟨t6, t7⟩ := ba t
  have fr : ∀ x ∈ frees, mg x = none := fun x hx => free_at X G (List.all_eq_true.mp t4 x hx)
  have df : ∀ x ∈ dn2, defB K x = true := fun x hx => List.all_eq_true.mp t3 x hx
  have er : ∀ x ∈ enm, errB PR.main.file K x = true := fun x hx => List.all_eq_true.mp t1 x hx
  have ez0 : ∀ x ∈ znm, erzB K x = true := fun x hx => List.all_eq_true.mp t2 x hx
  have bl : Blt mg := ⟨fr "all" (by simp [frees]), fr "dict" (by simp [frees]), fr "int" (by simp [frees]), fr "isinstance" (by simp [frees]), fr "len" (by simp [frees]), fr "list" (by simp [frees]), fr "max" (by simp [frees]), fr "min" (by simp [frees]), fr "range" (by simp [frees]), fr "repr" (by simp [frees]), fr "sum" (by simp [frees]), fr "tuple" (by simp [frees])⟩
  have tp : (PR.main.scope.names.lookup ("super" : Str)).isSome = false := by kernel_rfl
  have et : ∀ raw, ErrT PR w K mg (tblR K raw) enm := fun raw => ⟨by kernel_rfl, fun i hi => by
    have hi : i < 32 := hi
    have hl : enm.length = 32 := by kernel_rfl
    have hx : enm[i]? = some (enm.getD i "") := by rw [List.getD_eq_getElem?_getD, List.getElem?_eq_getElem (by omega)]; rfl
    exact err_at (er _ (List.mem_of_getElem? hx)) (c.m (List.mem_append_right _ (List.mem_map.mpr ⟨i, List.mem_range.mpr hi, rfl⟩))) (ini_all i hi) (eqO_ok t6) (fr "super" (by simp [frees])) tp, fun i x hx => by
    show mg x = some (.ref (ga K (enm.getD i "")))
    rw [got hx]
    exact err_glo X G (er x (List.mem_of_getElem? hx))⟩
  have ez : ∀ raw, ErrZT K mg (tblR K raw) znm := fun raw => ⟨rfl, fun i hi => by
    have hi : i < 3 := hi
    have hl : znm.length = 3 := rfl
    have hx : znm[i]? = some (znm.getD i "") := by rw [List.getD_eq_getElem?_getD, List.getElem?_eq_getElem (by omega)]; rfl
    exact erz_at (ez0 _ (List.mem_of_getElem? hx)), fun i x hx => by
    show mg x = some (.ref (ga K (znm.getD i "")))
    rw [got hx]
    exact erz_glo X G (ez0 x (List.mem_of_getElem? hx))⟩
  have isc : ∀ raw, IscT K mg (tblR K raw) isl := fun raw => ⟨fun j y cs zs hj => isc_at (t := (y, cs, zs)) X G (List.all_eq_true.mp t5 _ (List.mem_of_getElem? hj)) (by kernel_rfl) rfl rfl rfl⟩
  have hsm := sm_at t7
  have u0 := df "_law_mixed" (by simp [dn2])
  have v0 := c.m (p := fun K => ga K "_law_mixed") (v := fxOf "_law_mixed" "_law_mixed" (top 38)) (List.mem_append_left _ (List.mem_of_getElem? (i := 0) rfl))
  have u1 := df "_law_draw" (by simp [dn2])
  have v1 := c.m (p := fun K => ga K "_law_draw") (v := fxOf "_law_draw" "_law_draw" (top 39)) (List.mem_append_left _ (List.mem_of_getElem? (i := 1) rfl))
  have u2 := df "_law_one_of" (by simp [dn2])
  have v2 := c.m (p := fun K => ga K "_law_one_of") (v := fxOf "_law_one_of" "_law_one_of" (top 41)) (List.mem_append_left _ (List.mem_of_getElem? (i := 2) rfl))
  have u3 := df "_law_word" (by simp [dn2])
  have v3 := c.m (p := fun K => ga K "_law_word") (v := fxOf "_law_word" "_law_word" (top 42)) (List.mem_append_left _ (List.mem_of_getElem? (i := 3) rfl))
  have u4 := df "_law_first" (by simp [dn2])
  have v4 := c.m (p := fun K => ga K "_law_first") (v := fxOf "_law_first" "_law_first" (top 43)) (List.mem_append_left _ (List.mem_of_getElem? (i := 4) rfl))
  have u5 := df "_law_called" (by simp [dn2])
  have v5 := c.m (p := fun K => ga K "_law_called") (v := fxOf "_law_called" "_law_called" (top 44)) (List.mem_append_left _ (List.mem_of_getElem? (i := 5) rfl))
  have u6 := df "_law_bare" (by simp [dn2])
  have v6 := c.m (p := fun K => ga K "_law_bare") (v := fxOf "_law_bare" "_law_bare" (top 45)) (List.mem_append_left _ (List.mem_of_getElem? (i := 6) rfl))
  have u7 := df "_law_code" (by simp [dn2])
  have v7 := c.m (p := fun K => ga K "_law_code") (v := fxOf "_law_code" "_law_code" (top 46)) (List.mem_append_left _ (List.mem_of_getElem? (i := 7) rfl))
  have u8 := df "_law_is_error" (by simp [dn2])
  have v8 := c.m (p := fun K => ga K "_law_is_error") (v := fxOf "_law_is_error" "_law_is_error" (top 47)) (List.mem_append_left _ (List.mem_of_getElem? (i := 8) rfl))
  have u9 := df "_law_right" (by simp [dn2])
  have v9 := c.m (p := fun K => ga K "_law_right") (v := fxOf "_law_right" "_law_right" (top 48)) (List.mem_append_left _ (List.mem_of_getElem? (i := 9) rfl))
  have u10 := df "_law_purse" (by simp [dn2])
  have v10 := c.m (p := fun K => ga K "_law_purse") (v := fxOf "_law_purse" "_law_purse" (top 37)) (List.mem_append_left _ (List.mem_of_getElem? (i := 10) rfl))
  have u11 := df "_law_purses" (by simp [dn2])
  have v11 := c.m (p := fun K => ga K "_law_purses") (v := fxOf "_law_purses" "_law_purses" (top 40)) (List.mem_append_left _ (List.mem_of_getElem? (i := 11) rfl))
  have u12 := df "law" (by simp [dn2])
  have v12 := c.m (p := fun K => ga K "law") (v := fxOf "law" "law" (top 49)) (List.mem_append_left _ (List.mem_of_getElem? (i := 12) rfl))
  have tx : ∀ raw, Txt K mg (tblR K raw) := fun raw => ⟨def_fun u0 v0, def_glo X G u0, def_fun u1 v1, def_glo X G u1, def_fun u2 v2, def_glo X G u2, def_fun u3 v3, def_glo X G u3, def_fun u4 v4, def_glo X G u4, def_fun u5 v5, def_glo X G u5, def_fun u6 v6, def_glo X G u6, def_fun u7 v7, def_glo X G u7, def_fun u8 v8, def_glo X G u8, def_fun u9 v9, def_glo X G u9⟩
  obtain ⟨fdp, F⟩ := def_fun u10 v10
  obtain ⟨fds, F'⟩ := def_fun u11 v11
  obtain ⟨fd, FL⟩ := def_fun u12 v12
  have e := hfa.symm.trans (def_glo X G u12)
  cases e
  refine ⟨fd, fun s v kx => FL.binds (ps := ["_law_script"]) (fun _ _ _ _ _ _ us hl => match us, hl with | [_], _ => rfl) s [v] kx rfl, fun base _ _ => ?_⟩
  have al : ∀ raw : V, All PR w K mg base (tblR K raw) 3 := fun raw => all_ok bl (tx raw) (et raw) (ez raw) (isc raw) hsm 3
  have FP := (ok_purses (P := PR) (w := w) (base := base) bl F (def_glo X G u10) F').mono (show 2 ≤ 3 by decide)
  have bp : Binds K fds ["_law_script", "_law_few"] [] := F'.binds fun _ _ _ _ _ _ us hl => match us, hl with | [_, _], _ => rfl
  refine fnG_of FL scL (fun vs H Q E h => ?_) (fun cdv A outer s H vs Q E hr hgd h => ⟨_, pb_law (T := tblR K .non) bl (et _) (ez _) (isc _) hsm al FP (def_glo X G u11) F'.kp bp cdv A outer s H E hr hgd, pure_law 0 vs H Q h⟩)
  obtain ⟨a, ns, rfl, _⟩ := h
  rfl
end
def nm0 : List PySem.Str := ["CoreError", "InvalidKind", "InvalidTable", "InvalidKinds", "InvalidPairs", "InvalidWord", "InvalidRule", "InvalidMap", "InvalidNames", "InvalidBook", "InvalidName", "InvalidLog", "InvalidLogs", "InvalidMerging", "InvalidStrike", "InvalidRoad", "InvalidPlaces", "InvalidCount", "InvalidFuture", "InvalidValue", "InvalidStore", "InvalidInputs", "InvalidFolding", "InvalidJournal", "InvalidSpot", "InvalidScript", "InvalidText", "InvalidRecord", "Unlike", "Apart"]
def nm1 : List PySem.Str := ["Unsettled", "Boundless", "Refused", "NothingToUndo", "NothingToRedo", "_law_purse", "_law_mixed", "_law_draw", "_law_purses", "_law_one_of", "_law_word", "_law_first", "_law_called", "_law_bare", "_law_code", "_law_is_error", "_law_right"]
def names : List PySem.Str := nm0 ++ nm1
abbrev rowK : PySem.W.OpenRow := PySem.W.OpenLaw.row PySem.Challenge.rw_logcores_k01_errors_made
abbrev hk : PySem.W.Hook := hookB ask
def ob (s : PySem.W.SharedT) : AlB := ask.obsG (HandSHeadRun.getT s)
theorem ob_eq (s : PySem.W.SharedT) : ob s = hk.obs s.abs := obsB_eq (HandSHeadRun.getT_eq s)
theorem run (w : World) : HandSHeadRun.RunEq rowK (PySem.W.view rowK.prog [49]) hk ob 20000 names w := by
  intro os
  kernel_rfl
end B
open PySem PySem.W PySem.Calls PyProof.Rows
set_option maxRecDepth 100000 in
set_option maxHeartbeats 0 in
theorem PySem.Challenge.cw_logcores_k01_errors_made_holds : PySem.Challenge.rw_logcores_k01_errors_made.Holds := by
  w_on; o_law
  refine HandSHeadRun.head_any (r := B.rowK) (q := view B.rowK.prog [49]) (H := B.hk) (ob := B.ob) (M := 20000) (loose := B.names) (d := HandSHeadRun.topDef B.rowK.prog 49) (kwd := []) B.ob_eq
    (by kernel_rfl) (fun s => by kernel_rfl) B.run (by kernel_rfl) (by kernel_rfl) (by kernel_rfl) (by rfl) (by first | assumption | decide +kernel) (by decide +kernel) ⟨rfl, rfl, rfl, rfl, rfl, by decide +kernel⟩ ?hw ?hc
  case hw => w_witness2
  case hc =>
    refine B.walk_ofG (l := PySem.Challenge.rw_logcores_k01_errors_made) (n := 63) (k := 4) (x := "_law_script") (CX := fun w => L2.CX PySem.Challenge.rw_logcores_k01_errors_made.prog w) rfl (by decide) (by kernel_rfl) ⟨rfl, by decide, by decide⟩ rfl ?F ?X
    case X =>
      intro w H s e s' h
      obtain ⟨_, _, _, _, _, _, _, _, _, _, _, _, h⟩ := h
      exact h
    intro w mg fa h Y G hmg0
    obtain ⟨K, KX, c⟩ := Y
    have hmg : mg ("law" : PySem.Str) = some (.ref fa) := by
      have e : (HandSHeadRun.topDef B.rowK.prog 49).name = ("law" : PySem.Str) := by kernel_rfl
      rw [← e]
      exact hmg0
    obtain ⟨fd, hb, hF⟩ := B.facts (w := w) KX G hmg c
    exact ⟨K, fd, B.spLaw K, KX, hb, fun H a ns hl hS => ⟨a, ns, rfl, hS, fun _ => rfl⟩, hF⟩


