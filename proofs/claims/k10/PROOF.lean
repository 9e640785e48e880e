import PyProof.Rows.All
import Wide.All
import OpenK.AllK
import Wide.FinOn
import KE.KExcSuper
import KE.KExcIs
import HandS.ForMost
import HandS.ForExc
import HandS.ExcInit
import HandS.ExcCtx
import HandS.ExcIs
import HandS.ExcField
import HandS.HotCalls
import HandS.IsInst
import HandS.Property
import HandS.Flow
import HandS.Defaults
import HandS.Wide
import HandS.Comp
import HandS.Text
import HandS.StrMore
import HandS.ReplaceLit
import HandS.Words
import KE.RegKSuper
import KE.RegKIsAll
import KE.RegKTryMore
import PySem.Challenge.RW_lostpart_k10_whole_reach
set_option Elab.async false
set_option linter.all false
set_option maxRecDepth 100000
set_option maxHeartbeats 4000000
/-! Own exceptions whose __init__ says super().__init__(text) and stores one or two fields; the class stands under one more own class over ValueError. -/
namespace PySem
namespace LX
open PySem.W PySem.Calls PyProof.Rows PySem.HandSPX
/-- the text of such an __init__ -/
def supS (m : Str) (j : Nat) (a1 a2 a3 a4 a5 a6 : Pos) : Stmt :=
  .Expr (.Call (.Attribute (.Call (.Name "super" a1) [] [] a2) "__init__" a3) [.Constant (.str m) j a4] [] a5) a6
def fldS (f : Str) (q1 q2 q3 q4 : Pos) : Stmt := .Assign [.Attribute (.Name "self" q1) f q2] (.Name f q3) q4
/-- how that call is evaluated (by rfl, where the places are written) -/
def SupEq (m : Str) (j : Nat) (a1 a2 a3 a4 a5 : Pos) : Prop := ∀ env : Env, eval (.Call (.Attribute (.Call (.Name "super" a1) [] [] a2) "__init__" a3) [.Constant (.str m) j a4] [] a5) env = (do
      let ov ← attributeBase (.Call (.Name "super" a1) [] [] a2) "__init__" env (eval (.Call (.Name "super" a1) [] [] a2) env)
      standAt a3.atName
      let (f, first) ← holding [ov] (getMethod ov "__init__" (do return (← importBound (.Call (.Name "super" a1) [] [] a2) env).getD true))
      callWith a5 f first (backTo a5 (starEach [.Constant (.str m) j a4] env)) [])
/-- what the written part says of such a class at C -/
structure ExcT (K : Frag) (C : Addr) : Prop where
  ox : L2.OexC K C
  ga : findIn K (.ref C) "__getattribute__" = some (some (.builtin "BaseException.__getattribute__"))
  gg : findIn K (.ref C) "__getattr__" = some none
  hd : hasDictIn K C = true
  ha : findIn K (.ref C) "__class__" = some (some (.builtin "object.__class__"))
  hn : specialIn K (.builtin "object.__class__") "__get__" = some (some (.builtin "getset_descriptor.__get__"))
  ht : takesIn K (.builtin "object.__class__") = some true
  hm : mroIn K C (.type "object") = some true
/-- what it says of its __init__ at fI, the class's cell at cc, the code at cda; the def's st -/
structure InitT (P : Program) (K : Frag) (mg : Str → Option Value) (C fI : Addr) (qual : Str) (pa : Arguments) (bd : List Stmt) (sc : Scope) : Prop where
  iC : findIn K (.ref C) "__init__" = some (some (.ref fI))
  tC : typeIn K (.ref fI) = some (.type "function")
  fn : ∃ (oc : Value) (od : Option Addr) (kV doc pm : Value) (an : Option Addr) (ct : Value) (osl : Array (Option Value)) (cda cc : Addr),
    K.lookup fI = some ⟨oc, od, .func (ksFn "__init__" qual pa bd sc .none kV doc pm an (.ref cda) ct cc), osl⟩ ∧ codeIn K (.ref cda) qual = true ∧
    (∃ (ccl : Value) (cdd : Option Addr) (vs : Array Value) (ccs : Array (Option Value)) (file : Str) (tf : Tok), K.lookup cda = some ⟨ccl, cdd, .fields vs, ccs⟩ ∧ vs[2]? = some (.str file tf) ∧ ((P.main.file : Str) == file) = true) ∧
    ∃ (cl : Value) (cld : Option Addr) (csl : Array (Option Value)), K.lookup cc = some ⟨cl, cld, .cell (some (.ref C)), csl⟩
  sup : ks_superIn K C C "__init__" = some (some (.builtin "ValueError.__init__"))
  mro : mroIn K C (.ref C) = some true
  subV : subIn K (.ref C) (.type "ValueError") = some true
  opq : nsIn K cStatics "thirdparty.any" = some none
  gs : mg "super" = none
  top : (P.main.scope.names.lookup ("super" : Str)).isSome = false

section
variable {prog : Program} {w : World} {A : Around} {E : Value → Shared → Prop} {s : Shared} {K : Frag} {mg : Str → Option Value} {C fI : Addr} {qual : Str} {pa : Arguments} {bd : List Stmt} {sc : Scope}
/-- super().__init__(m): the exception's record is laid anew, the rest stands -/
theorem sup_stmt {body : List Stmt} {m : Str} {j : Nat} {a1 a2 a3 a4 a5 a6 : Pos} {cda cc : Addr} {L : Addr} {q : Str} {scope : Scope} {mL mb : Str → Option Value} {fd : FuncData} {oc : Value} {od : Option Addr} {osl : Array (Option Value)} {ar : Arg} {vs : Array Value} {file : Str} {tf : Tok} {ccl cl : Value} {cdd cld : Option Addr} {ccs csl : Array (Option Value)} {x t0 : Addr}
    {Q : Flow → Shared → Prop} (T : L2.OexC K C) (X : K.In s.heap) (hns : s.heap.Ns L mL) (hg : s.heap.Ns mainGlobals mg) (hb : s.heap.Ns builtinsNs mb) (hbb : mb "super" = some (.type "super"))
    (hf : K.lookup fI = some ⟨oc, od, .func fd, osl⟩) (hp : (fd.params.posonlyargs ++ fd.params.args).head? = some ar) (hv : mL ar.arg = some (.ref x)) (hx : s.heap.get? x = some (excO C t0))
    (hcode : K.lookup cda = some ⟨ccl, cdd, .fields vs, ccs⟩) (hvs : vs[2]? = some (.str file tf)) (hfile : ((prog.main.file : Str) == file) = true)
    (hcell : K.lookup cc = some ⟨cl, cld, .cell (some (.ref C)), csl⟩) (hmro : mroIn K C (.ref C) = some true) (hsup : ks_superIn K C C "__init__" = some (some (.builtin "ValueError.__init__"))) (hsubV : subIn K (.ref C) (.type "ValueError") = some true) (hop : nsIn K cStatics "thirdparty.any" = some none)
    (gs : mg "super" = none) (htop : (prog.main.scope.names.lookup ("super" : Str)).isSome = false)
    (hks : scope.names.lookup ("super" : Str) = some .globalImplicit) (hkc : scope.names.lookup ("__class__" : Str) = some .free) (hka : scope.names.lookup ar.arg = some .local) (hk : scope.kind = .function) (hxL : x ≠ L)
    (se : SupEq m j a1 a2 a3 a4 a5)
    (h : ∀ h' tk t1, (∀ b o, b ≠ x → s.heap.get? b = some o → h'.get? b = some o) → h'.get? x = some (excO C t1) → Q .next { s with heap := h', toks := tk }) :
    wpAt (model prog w) A (.func body (ksEnv q scope L fI (.ref cda) cc)) (exec (supS m j a1 a2 a3 a4 a5 a6) (ksEnv q scope L fI (.ref cda) cc)) Q E s := by
  obtain ⟨nm, qn, N, bs, bm, sn, sub, ab, col, dd, k0, k1, k2, k3, k5, hC, hbm⟩ := T.cls
  have hcl : clsIn K C = some { name := nm, bases := bs, mro := .ref C :: bm, ns := N, qualname := qn, hasDict := true, slotNames := sn, subclasses := sub, abstract := ab, collection := col, hasDel := false } := by unfold clsIn; rw [hC] <;> rfl
  refine ks_wpAt_Expr_any (ks_wpAt_MethodCall ?_ (se _)) (by unfold interactive; rw [show (ksEnv q scope L fI (.ref cda) cc).scope.kind = .function from hk]; rfl)
  obtain ⟨hh, g, d, t, os⟩ := s
  obtain ⟨oD, hD1, hD2⟩ : ∃ oD, hh.get? C = some oD ∧ oD.data = .cls { name := nm, bases := bs, mro := .ref C :: bm, ns := N, qualname := qn, hasDict := true, slotNames := sn, subclasses := sub, abstract := ab, collection := col, hasDel := false } := ⟨_, X _ _ hC, rfl⟩
  refine ks_wpAt_super_base (env := ksEnv q scope L fI (.ref cda) cc) hks hkc (by decide) rfl (X _ _ hf) rfl hp rfl (X _ _ hcode) rfl hvs hfile htop ?_
  refine ks_loadName_global hk hks (loadGlobal_builtin (env := ksEnv q scope L fI (.ref cda) cc) hg gs hb hbb ⟨rfl, ?_⟩)
  refine wpAny_loadName_free hk hkc rfl ⟨_, X _ _ hcell, rfl⟩ ?_
  refine wpAny_loadName_local hk hka hns hv ?_
  refine ks_wpAny_isType_cls hD1 hD2 ⟨rfl, ?_⟩
  refine ks_wpAny_call_super hD1 hD2 hx rfl (fun c e => by cases e) (looks_mroIn X hmro) (fun h1 e1 k1 => ?_)
  have X1 : K.In h1 := X.keeps k1
  have I1 : InstAt h1 x (excO C t0) C none := ⟨k1 _ _ hx, rfl, rfl, trivial⟩
  have hI : Looks (model prog w) h1 (isInstance (.ref x) (.type "ValueError")) true := I1.type.andThen (looks_subIn X1 hsubV)
  have hm' : alongIn K "__init__" ((((.ref C :: bm : List Value)).dropWhile (· != .ref C)).drop 1) = some (some (.builtin "ValueError.__init__")) := by
    have q1 := hsup
    unfold ks_superIn at q1
    rw [hcl] at q1
    exact q1
  refine kxs_getMethod kxs_ValueError e1 (looks_opaque X1 hop) (l₀ := .ref C :: bm) (fun A Q E s k q => wpAny_bind ((looks_clsIn X1 hcl) A _ E s k (wpAny_pure q))) rfl X1 hm' hI (ks_ne X1 I1 hcl) (by decide) ?_
  -- the call
  have e2 : (h1.push (kxs_mw "ValueError.__init__" x)).get? h1.objs.size = some (kxs_mw "ValueError.__init__" x) := Heap.get?_push_at rfl rfl
  have k2' : ∀ b o, h1.get? b = some o → (h1.push (kxs_mw "ValueError.__init__" x)).get? b = some o := fun b o e => Heap.get?_push_of_some _ e
  have hx2 := k2' _ _ (k1 _ _ hx)
  have hC2 := k2' _ _ (k1 _ _ (X _ _ hC))
  show wpAny _ _ (callWith a5 (.ref h1.objs.size) [] (backTo a5 (starEach [.Constant (.str m) j a4] _)) []) _ _ _
  refine kxs_callWith (i := "ValueError.__init__") (x := x) (by rfl) ?_
  refine evalArgs_plain (spliced_cons ?_)
  show wpAny _ _ (eval (.Constant (.str m) j a4) _) _ _ _
  refine Constant_str ?_
  refine spliced_nil ⟨e2, ?_⟩
  show wpAny _ _ (call (.ref h1.objs.size) [Value.str m (t + 1)]) _ _ _
  refine wpAny_call (codeAny_of_tree ?_)
  show wpAny _ _ (callAny (.ref h1.objs.size) ⟨[Value.str m (t + 1)], []⟩) _ _ _
  simp only [callAny]
  refine wpAny_bind (wpAny_load e2 ?_)
  simp only [kxs_mw, show (Value.type "method-wrapper" == Value.type "method" || Value.type "method-wrapper" == Value.type "builtin_function_or_method" || Value.type "method-wrapper" == Value.type "method-wrapper") = true by decide, if_true]
  refine KFB.if_so (by decide) ?_
  refine wpAny_bind (check_bound_init F.excBase_ValueError.toExcCallFacts hC2 hx2 rfl ?_)
  refine wpAny_bind (wpAny_pure (wpAny_pure ?_))
  refine ⟨plainId_quiet F.excBase_ValueError.init.plain _, codeAny_builtin F.excBase_ValueError.initEntry ?_⟩
  refine exc_init_tree (cls := .ref C) (t0 := t0) (dv := none) (c2 := .none) (c3 := .none) (b4 := .bool false) hx2 (by show 1 ≤ sizeLine; decide) fun h' k3 e3 _ => ?_
  refine h h' _ (h1.push (kxs_mw "ValueError.__init__" x)).objs.size (fun b o hb e => k3 b o hb (k2' _ _ (k1 _ _ e))) e3
end
/-- what the fields hold, the last one first -/
def nsOf : List (Str × Value) → Str → Option Value
  | [] => fun _ => none
  | (f, v) :: r => fun y => if y = f then some v else nsOf r y
/-- what such an __init__ leaves of a fresh exception at x -/
structure InitEnd (h h' : Heap) (x C dx t1 : Addr) (fs : List (Str × Value)) : Prop where
  keep : ∀ b o, b ≠ x → h.get? b = some o → h'.get? b = some o
  obj : h'.get? x = some { cls := .ref C, dict := some dx, data := .fields #[.ref t1, .none, .none, .none, .bool false, .none] }
  dbig : h.objs.size ≤ dx
  dne : dx ≠ x
  ns : h'.Ns1 dx (nsOf fs)
/-- the scope of such an __init__ -/
structure ScOk (sc : Scope) (nms : List Str) : Prop where
  ks : sc.names.lookup ("super" : Str) = some .globalImplicit
  kc : sc.names.lookup ("__class__" : Str) = some .free
  kd : sc.kind = .function
  co : sc.isCoroutine = false
  ge : sc.isGenerator = false
  ce : ∀ x ∈ sc.names, x.2 ≠ .cell
  lo : ∀ n ∈ ("self" : Str) :: nms, sc.names.lookup n = some .local
def BindOk (qual : Str) (pa : Arguments) (bd : List Stmt) (sc : Scope) (nms : List Str) : Prop :=
  ∀ (kV doc pm : Value) (an : Option Addr) (cdv ct : Value) (cc : Addr) (us : List Value), us.length = nms.length + 1 → bindArgs (ksFn "__init__" qual pa bd sc .none kV doc pm an cdv ct cc) ⟨us, []⟩ = pure ((("self" : Str) :: nms).zip us)
/-- such an __init__ runs -/
def InitRuns (prog : Program) (K : Frag) (mg : Str → Option Value) (C fI : Addr) (nms : List Str) : Prop :=
  ∀ (w : World) (A : Around) (s : Shared) (R : Result → Shared → Prop) (x t0 : Addr) (us : List Value) (mb : Str → Option Value), us.length = nms.length → K.In s.heap → s.heap.NoLimit → s.heap.Ns mainGlobals mg → s.heap.Ns builtinsNs mb → mb "super" = some (.type "super") →
    s.heap.get? x = some (excO C t0) → K.lookup x = none → A.depth < recursionLimit → (∀ h' tk dx t1, InitEnd s.heap h' x C dx t1 (nms.zip us).reverse → R (.ok (.ret .none)) { s with heap := h', toks := tk }) →
    codeAny (model prog w) A (.call (.ref fI) ⟨.ref x :: us, []⟩) R s
section
variable {prog : Program} {K : Frag} {mg : Str → Option Value} {C fI : Addr} {qual : Str} {pa : Arguments} {sc : Scope} {f g m : Str} {j : Nat} {a1 a2 a3 a4 a5 a6 q1 q2 q3 q4 r1 r2 r3 r4 : Pos} {ar : Arg}
theorem ldL {M : Model} {A : Around} {E : Value → Shared → Prop} {s : Shared} {env : Env} {m : Str → Option Value} {x : Str} {pos : Pos} {v : Value} {Q : Value → Shared → Prop} (hn : s.heap.Ns env.locals m) (hv : m x = some v) (h : Q v s)
    (hk : env.scope.kind = .function) (hl : env.kindOf x = some .local) (hd : (x == ("__debug__" : Str)) = false := by decide) : wpAny M A (eval (.Name x pos) env) Q E s := wpAny_Name (wpAny_loadName_local hk hl hn hv h) hd
theorem kept_but {K : Frag} {h h' : Heap} {x : Addr} (X : K.In h) (hx : K.lookup x = none) (k : ∀ b o, b ≠ x → h.get? b = some o → h'.get? b = some o) : K.In h' := fun a o e =>
  k a o (fun z => by rw [z, hx] at e; cases e) (X a o e)
theorem assign_attr {w : World} {A : Around} {E : Value → Shared → Prop} {s : Shared} {env : Env} {x : Addr} {v : Value} {mL : Str → Option Value} {Q : Flow → Shared → Prop} (hn : s.heap.Ns env.locals mL) (hf : mL f = some v) (hs : mL "self" = some (.ref x))
    (hk : env.scope.kind = .function) (h1 : env.kindOf f = some .local) (h2 : env.kindOf "self" = some .local) (hd : (f == ("__debug__" : Str)) = false) (hsw : swapsWith (.Name f q3) (some (.Attribute (.Name "self" q1) f q2)) q4.line env = pure false)
    (h : wpAny (model prog w) A (setAttr (.ref x) f v) (fun _ => Q .next) E s) : wpAny (model prog w) A (exec (fldS f q1 q2 q3 q4) env) Q E s := by
  refine plainObj_wpAny_Assign_Attribute ?_ hsw
  exact ldL hn hf (ldL hn hs h hk h2) hk h1 hd
theorem init1 (T : ExcT K C) (I : InitT prog K mg C fI qual pa [supS m j a1 a2 a3 a4 a5 a6, fldS f q1 q2 q3 q4] sc) (se : SupEq m j a1 a2 a3 a4 a5) (so : ScOk sc [f]) (bo : BindOk qual pa [supS m j a1 a2 a3 a4 a5 a6, fldS f q1 q2 q3 q4] sc [f])
    (hp : (pa.posonlyargs ++ pa.args).head? = some ar) (har : ar.arg = ("self" : Str)) (hfs : (f == ("self" : Str)) = false) (hfd : (f == ("__debug__" : Str)) = false) (hno : findIn K (.ref C) f = some none)
    (hsw : ∀ env : Env, swapsWith (.Name f q3) (some (.Attribute (.Name "self" q1) f q2)) q4.line env = pure false) : InitRuns prog K mg C fI [f] := by
  intro w A s R x t0 us mb hus X hlim hg hb hbb hx hnx hroom hq
  obtain ⟨v, rfl⟩ : ∃ v, us = [v] := by
    match us, hus with
    | [v], _ => exact ⟨v, rfl⟩
  obtain ⟨oc, od, kV, doc, pm, an, ct, osl, cda, cc, ho, hcd, ⟨ccl, cdd, vs, ccs, file, tf, hcode, hvs, hfile⟩, ⟨cl, cld, csl, hcell⟩⟩ := I.fn
  obtain ⟨nm, q, N, bs, bm, sn, sub, ab, col, dd, k0, k1, k2, k3, k5, hC, hbm⟩ := T.ox.cls
  have hcl : clsIn K C = some { name := nm, bases := bs, mro := .ref C :: bm, ns := N, qualname := q, hasDict := true, slotNames := sn, subclasses := sub, abstract := ab, collection := col, hasDel := false } := by unfold clsIn; rw [hC] <;> rfl
  refine ks_codeAny_call_defAt (fd := ksFn "__init__" qual pa [supS m j a1 a2 a3 a4 a5 a6, fldS f q1 q2 q3 q4] sc .none kV doc pm an (.ref cda) ct cc) (body := [supS m j a1 a2 a3 a4 a5 a6, fldS f q1 q2 q3 q4]) (binds := [("self", .ref x), (f, v)]) hroom (X _ _ ho) rfl hlim (codeRec_of X hcd) rfl (BindsTo.of_eq (bo _ _ _ _ _ _ _ [.ref x, v] rfl)) so.ce (fun y hy => ?_) (fun h₁ hns k₁ => ?_) so.co so.ge so.kd
  · have hy' : y = (("self" : Str), Value.ref x) ∨ y = (f, v) := by simpa using hy
    rcases hy' with rfl | rfl
    · exact so.lo _ (by simp)
    · exact so.lo _ (by simp)
  · have hxL : s.heap.objs.size ≠ x := Nat.ne_of_gt (Heap.lt_size hx)
    have m1 : (fun y : Str => List.lookup y (List.reverse [(("self" : Str), Value.ref x), (f, v)])) f = some v := by simp [List.lookup]
    have hsf : (("self" : Str) == f) = false := by
      rw [beq_eq_false_iff_ne] at hfs ⊢
      exact fun z => hfs z.symm
    have m2 : (fun y : Str => List.lookup y (List.reverse [(("self" : Str), Value.ref x), (f, v)])) "self" = some (.ref x) := by simp [List.lookup, hsf]
    have X₁ : K.In h₁ := X.keeps k₁
    show wpAt (model prog w) (A.deeper (ksEnv qual sc s.heap.objs.size fI (.ref cda) cc)) (.func _ (ksEnv qual sc s.heap.objs.size fI (.ref cda) cc)) (execs _ (ksEnv qual sc s.heap.objs.size fI (.ref cda) cc)) _ _ _
    refine ks_wpAt_execs_cons ?_
    refine sup_stmt (mg := mg) (mb := mb) (fd := ksFn "__init__" qual pa [supS m j a1 a2 a3 a4 a5 a6, fldS f q1 q2 q3 q4] sc .none kV doc pm an (.ref cda) ct cc) T.ox X₁ hns (hg.keeps k₁) (hb.keeps k₁) hbb ho hp (by rw [har]; exact m2) (k₁ _ _ hx) hcode hvs hfile hcell I.mro I.sup I.subV I.opq I.gs I.top so.ks so.kc (by rw [har]; exact so.lo _ (by simp)) so.kd (Ne.symm hxL) se fun h₂ tk₂ t1 k₂ hx₂ => ?_
    have hns₂ : h₂.Ns s.heap.objs.size (fun y => List.lookup y (List.reverse [(("self" : Str), Value.ref x), (f, v)])) := by
      obtain ⟨oL, es, ep, hL, r⟩ := hns
      exact ⟨oL, es, ep, k₂ _ _ hxL hL, r⟩
    have X₂ : K.In h₂ := kept_but X₁ hnx k₂
    refine wpAt_of_wpAny (wpAny_execs_cons (assign_attr (x := x) (v := v) hns₂ m1 m2 so.kd (so.lo _ (by simp)) (so.lo _ (by simp)) hfd (hsw _) ?_))
    refine set_plain X₂ (ox := excO C t1) (od := none) ⟨hx₂, rfl, rfl, trivial⟩ T.ox.sa ?_
    refine exc_osa X₂ hx₂ hcl (show refsVE (.ref C :: bm) = true from hbm) rfl hno (fun h₃ tk₃ dx k₃ dn dne hx₃ hn₃ => ?_)
    have z2 : s.heap.objs.size < h₂.objs.size := hns₂.lt
    exact wpAny_execs_nil (hq h₃ tk₃ dx t1 ⟨fun b o hb e => k₃ b o hb (k₂ b o hb (k₁ b o e)), hx₃, Nat.le_of_lt (Nat.lt_of_lt_of_le z2 dn), dne, hn₃⟩)
theorem init2 (T : ExcT K C) (I : InitT prog K mg C fI qual pa [supS m j a1 a2 a3 a4 a5 a6, fldS f q1 q2 q3 q4, fldS g r1 r2 r3 r4] sc) (se : SupEq m j a1 a2 a3 a4 a5) (so : ScOk sc [f, g]) (bo : BindOk qual pa [supS m j a1 a2 a3 a4 a5 a6, fldS f q1 q2 q3 q4, fldS g r1 r2 r3 r4] sc [f, g])
    (hp : (pa.posonlyargs ++ pa.args).head? = some ar) (har : ar.arg = ("self" : Str)) (hfs : (f == ("self" : Str)) = false) (hgs : (g == ("self" : Str)) = false) (hfg : (f == g) = false) (hfd : (f == ("__debug__" : Str)) = false) (hgd : (g == ("__debug__" : Str)) = false)
    (hno : findIn K (.ref C) f = some none) (hno2 : findIn K (.ref C) g = some none)
    (hsw : ∀ env : Env, swapsWith (.Name f q3) (some (.Attribute (.Name "self" q1) f q2)) q4.line env = pure false) (hsw2 : ∀ env : Env, swapsWith (.Name g r3) (some (.Attribute (.Name "self" r1) g r2)) r4.line env = pure false) : InitRuns prog K mg C fI [f, g] := by
  intro w A s R x t0 us mb hus X hlim hg hb hbb hx hnx hroom hq
  obtain ⟨v, u, rfl⟩ : ∃ v u, us = [v, u] := by
    match us, hus with
    | [v, u], _ => exact ⟨v, u, rfl⟩
  obtain ⟨oc, od, kV, doc, pm, an, ct, osl, cda, cc, ho, hcd, ⟨ccl, cdd, vs, ccs, file, tf, hcode, hvs, hfile⟩, ⟨cl, cld, csl, hcell⟩⟩ := I.fn
  obtain ⟨nm, q, N, bs, bm, sn, sub, ab, col, dd, k0, k1, k2, k3, k5, hC, hbm⟩ := T.ox.cls
  have hcl : clsIn K C = some { name := nm, bases := bs, mro := .ref C :: bm, ns := N, qualname := q, hasDict := true, slotNames := sn, subclasses := sub, abstract := ab, collection := col, hasDel := false } := by unfold clsIn; rw [hC] <;> rfl
  refine ks_codeAny_call_defAt (fd := ksFn "__init__" qual pa [supS m j a1 a2 a3 a4 a5 a6, fldS f q1 q2 q3 q4, fldS g r1 r2 r3 r4] sc .none kV doc pm an (.ref cda) ct cc) (body := [supS m j a1 a2 a3 a4 a5 a6, fldS f q1 q2 q3 q4, fldS g r1 r2 r3 r4]) (binds := [("self", .ref x), (f, v), (g, u)]) hroom (X _ _ ho) rfl hlim (codeRec_of X hcd) rfl (BindsTo.of_eq (bo _ _ _ _ _ _ _ [.ref x, v, u] rfl)) so.ce (fun y hy => ?_) (fun h₁ hns k₁ => ?_) so.co so.ge so.kd
  · have hy' : y = (("self" : Str), Value.ref x) ∨ y = (f, v) ∨ y = (g, u) := by simpa using hy
    rcases hy' with rfl | rfl | rfl
    · exact so.lo _ (by simp)
    · exact so.lo _ (by simp)
    · exact so.lo _ (by simp)
  · have hxL : s.heap.objs.size ≠ x := Nat.ne_of_gt (Heap.lt_size hx)
    have hsf : (("self" : Str) == f) = false := by
      rw [beq_eq_false_iff_ne] at hfs ⊢
      exact fun z => hfs z.symm
    have hsg : (("self" : Str) == g) = false := by
      rw [beq_eq_false_iff_ne] at hgs ⊢
      exact fun z => hgs z.symm
    have m1 : (fun y : Str => List.lookup y (List.reverse [(("self" : Str), Value.ref x), (f, v), (g, u)])) f = some v := by simp [List.lookup, hfg]
    have m3 : (fun y : Str => List.lookup y (List.reverse [(("self" : Str), Value.ref x), (f, v), (g, u)])) g = some u := by simp [List.lookup]
    have m2 : (fun y : Str => List.lookup y (List.reverse [(("self" : Str), Value.ref x), (f, v), (g, u)])) "self" = some (.ref x) := by simp [List.lookup, hsf, hsg]
    have X₁ : K.In h₁ := X.keeps k₁
    show wpAt (model prog w) (A.deeper (ksEnv qual sc s.heap.objs.size fI (.ref cda) cc)) (.func _ (ksEnv qual sc s.heap.objs.size fI (.ref cda) cc)) (execs _ (ksEnv qual sc s.heap.objs.size fI (.ref cda) cc)) _ _ _
    refine ks_wpAt_execs_cons ?_
    refine sup_stmt (mg := mg) (mb := mb) (fd := ksFn "__init__" qual pa [supS m j a1 a2 a3 a4 a5 a6, fldS f q1 q2 q3 q4, fldS g r1 r2 r3 r4] sc .none kV doc pm an (.ref cda) ct cc) T.ox X₁ hns (hg.keeps k₁) (hb.keeps k₁) hbb ho hp (by rw [har]; exact m2) (k₁ _ _ hx) hcode hvs hfile hcell I.mro I.sup I.subV I.opq I.gs I.top so.ks so.kc (by rw [har]; exact so.lo _ (by simp)) so.kd (Ne.symm hxL) se fun h₂ tk₂ t1 k₂ hx₂ => ?_
    have hns₂ : h₂.Ns s.heap.objs.size (fun y => List.lookup y (List.reverse [(("self" : Str), Value.ref x), (f, v), (g, u)])) := by
      obtain ⟨oL, es, ep, hL, r⟩ := hns
      exact ⟨oL, es, ep, k₂ _ _ hxL hL, r⟩
    have X₂ : K.In h₂ := kept_but X₁ hnx k₂
    refine wpAt_of_wpAny (wpAny_execs_cons (assign_attr (x := x) (v := v) hns₂ m1 m2 so.kd (so.lo _ (by simp)) (so.lo _ (by simp)) hfd (hsw _) ?_))
    refine set_plain X₂ (ox := excO C t1) (od := none) ⟨hx₂, rfl, rfl, trivial⟩ T.ox.sa ?_
    refine exc_osa X₂ hx₂ hcl (show refsVE (.ref C :: bm) = true from hbm) rfl hno (fun h₃ tk₃ dx k₃ dn dne hx₃ hn₃ => ?_)
    have z2 : s.heap.objs.size < h₂.objs.size := hns₂.lt
    have hns₃ : h₃.Ns s.heap.objs.size (fun y => List.lookup y (List.reverse [(("self" : Str), Value.ref x), (f, v), (g, u)])) := by
      obtain ⟨oL, es, ep, hL, r⟩ := hns₂
      exact ⟨oL, es, ep, k₃ _ _ hxL hL, r⟩
    have X₃ : K.In h₃ := kept_but X₂ hnx k₃
    have hw : Within (fun y => if y = f then some v else none) [f] := fun y hy => by
      by_cases e : y = f
      · rw [e]
        exact List.mem_cons_self ..
      · exact absurd (if_neg e) hy
    obtain ⟨oD, _, _, hoD, _, _⟩ := hn₃.count hw
    refine wpAny_execs_cons (assign_attr (x := x) (v := u) hns₃ m3 m2 so.kd (so.lo _ (by simp)) (so.lo _ (by simp)) hgd (hsw2 _) ?_)
    refine set_plain X₃ (ox := { cls := .ref C, dict := some dx, data := .fields #[.ref t1, .none, .none, .none, .bool false, .none] }) (od := some oD) ⟨hx₃, rfl, rfl, hoD⟩ T.ox.sa ?_
    refine OEX.osa_old X₃ hx₃ hn₃ hw (by show 1 ≤ 1000; decide) hcl (show refsVE (.ref C :: bm) = true from hbm) rfl hno2 (fun h₄ tk₄ k₄ hn₄ => ?_)
    exact wpAny_execs_nil (hq h₄ tk₄ dx t1 ⟨fun b o hb e => k₄ b o (Nat.ne_of_lt (Nat.lt_of_lt_of_le (Nat.lt_trans (Heap.lt_size e) z2) dn)) (k₃ b o hb (k₂ b o hb (k₁ b o e))), k₄ x _ (Ne.symm dne) hx₃, Nat.le_of_lt (Nat.lt_of_lt_of_le z2 dn), dne, hn₄⟩)
/-- C(us) -/
theorem made (T : ExcT K C) (iC : findIn K (.ref C) "__init__" = some (some (.ref fI))) (tC : typeIn K (.ref fI) = some (.type "function")) {nms : List Str} (IR : InitRuns prog K mg C fI nms) {w : World} {A : Around} {s : Shared} {R : Result → Shared → Prop} {us : List Value} {mb : Str → Option Value}
    (hus : us.length = nms.length) (hz : us.length ≤ sizeLine) (X : K.In s.heap) (hlim : s.heap.NoLimit) (hg : s.heap.Ns mainGlobals mg) (hb : s.heap.Ns builtinsNs mb) (hbb : mb "super" = some (.type "super")) (hroom : A.depth + 1 < recursionLimit)
    (hq : ∀ h' tk e dx t1, s.heap.objs.size ≤ e → (∀ b o, s.heap.get? b = some o → h'.get? b = some o) → h'.get? e = some { cls := .ref C, dict := some dx, data := .fields #[.ref t1, .none, .none, .none, .bool false, .none] } → s.heap.objs.size ≤ dx → dx ≠ e → h'.Ns1 dx (nsOf (nms.zip us).reverse) →
      R (.ok (.ret (.ref e))) { s with heap := h', toks := tk }) :
    codeAny (model prog w) A (.call (.ref C) ⟨us, []⟩) R s := by
  obtain ⟨nm, q, N, bs, bm, sn, sub, ab, col, dd, k0, k1, k2, k3, k5, hC, hbm⟩ := T.ox.cls
  obtain ⟨hp, g, dr, tk, os⟩ := s
  have k : ∀ b o, hp.get? b = some o → ((hp.push (kdv_tup us)).push (excO C hp.objs.size)).get? b = some o := fun b o e => Heap.get?_push_of_some _ (Heap.get?_push_of_some _ e)
  have hget : ((hp.push (kdv_tup us)).push (excO C hp.objs.size)).get? (hp.objs.size + 1) = some (excO C hp.objs.size) := by heap_get
  have hnx : K.lookup (hp.objs.size + 1) = none := by
    cases e : K.lookup (hp.objs.size + 1) with
    | none => rfl
    | some o =>
      have z : hp.get? (hp.objs.size + 1) = some o := X _ _ e
      exact absurd (Nat.lt_of_succ_lt (Heap.lt_size z)) (Nat.lt_irrefl _)
  refine call_own F.excBase_ValueError (fun X => refsVE_contains X bm hbm) (X _ _ hC) (looks_findIn X iC) (fun self => bind_fn X self tC) hz ?_
  refine IR w _ ⟨(hp.push (kdv_tup us)).push (excO C hp.objs.size), g, dr, tk, os⟩ _ (hp.objs.size + 1) hp.objs.size us mb hus (X.keeps k) (hlim.keeps k) (hg.keeps k) (hb.keeps k) hbb hget hnx ?_ fun h' tk' dx t1 ⟨k', hx, dn, dne, hns⟩ => ?_
  · show A.depth + 1 < recursionLimit
    exact hroom
  · have old : ∀ b o, hp.get? b = some o → h'.get? b = some o := fun b o e => k' b o (Nat.ne_of_lt (Nat.lt_succ_of_lt (Heap.lt_size e))) (k b o e)
    have z : hp.objs.size + 1 + 1 ≤ dx := by
      first
        | (simpa only [Heap.size_push] using dn)
        | exact dn
        | (have q := dn; rw [Heap.size_push, Heap.size_push] at q; exact q)
    exact ⟨rfl, hq h' tk' (hp.objs.size + 1) dx t1 (Nat.le_succ _) old hx (Nat.le_trans (Nat.le_trans (Nat.le_succ _) (Nat.le_succ _)) z) dne hns⟩
end
end LX
end PySem
namespace L2
open PySem PySem.Spec PyProof.Rows
theorem relO_ns : ∀ {fs : List (Str × V)} {us : List (Str × Value)}, Paired (fun (p : Str × V) (q : Str × Value) => p.1 = q.1 ∧ RelV p.2 q.2) fs us → ∀ f, RelO (fs.lookup f) (PySem.LX.nsOf us f)
  | _, _, .nil, f => True.intro
  | _, _, .cons (a := (g, v)) (b := (g', u)) r t, f => by
    obtain ⟨e, rv⟩ := r
    have e' : g = g' := e
    subst e'
    rw [lookup_put]
    show RelO _ (if f = g then some u else PySem.LX.nsOf _ f)
    by_cases h : f = g
    · rw [if_pos h, if_pos h]
      exact rv
    · rw [if_neg h, if_neg h]
      exact relO_ns t f
theorem paired_app {α β : Type} {F : α → β → Prop} {k₁ : List α} {k₂ : List β} {l₁ : List α} {l₂ : List β} (h : Paired F l₁ l₂) (g : Paired F k₁ k₂) : Paired F (l₁ ++ k₁) (l₂ ++ k₂) := by
  induction h with
  | nil => exact g
  | cons r t ih => exact .cons r ih
theorem paired_rev {α β : Type} {F : α → β → Prop} {l₁ : List α} {l₂ : List β} (h : Paired F l₁ l₂) : Paired F l₁.reverse l₂.reverse := by
  induction h with
  | nil => exact .nil
  | cons r t ih =>
    rw [List.reverse_cons, List.reverse_cons]
    exact paired_app ih (.cons r .nil)
theorem paired_zip {nms : List Str} : ∀ {vs : List V} {us : List Value}, Vals vs us → Paired (fun (p : Str × V) (q : Str × Value) => p.1 = q.1 ∧ RelV p.2 q.2) (nms.zip vs) (nms.zip us) := by
  induction nms with
  | nil => intro vs us _; exact .nil
  | cons n r ih =>
    intro vs us h
    cases h with
    | nil => exact .nil
    | cons q t => exact .cons ⟨rfl, q⟩ (ih t)
section
variable {X : Cx} {C fI : Addr}
/-- C(e, ..) -/
def tMkX (C : Addr) (nms : List Str) (ta : TA) : St → Hp → XK → Prop := fun σ H Q => ta σ H fun vs H1 => vs.length = nms.length ∧ nms.length ≤ 10 ∧ ∀ d, H1 d = none → Q (.ref C) (some d) (upd H1 d (.xd (nms.zip vs).reverse))
theorem pmk_x {e : Expr} {es : List Expr} {ta : TA} {x : Str} {p pos : Pos} {k : Nat} {nms : List Str} (T : PySem.LX.ExcT X.K C) (iC : PySem.W.findIn X.K (.ref C) "__init__" = some (some (.ref fI))) (tC : PySem.W.typeIn X.K (.ref fI) = some (.type "function"))
    (IR : PySem.LX.InitRuns X.prog X.K X.mg C fI nms) (gC : X.mg x = some (.ref C)) (hr : Room k X.A) (ha : PA X (e :: es) ta) (hg : Gl X x) (hdb : (x == ("__debug__" : Str)) = false := by decide)
    (he : starEach (e :: es) X.env = (false, eval e X.env) :: starEach es X.env := by rfl) (hpl : (backTo pos (starEach es X.env)).any (·.1) = false := by rfl) :
    L2N.PMk X (.Call (.Name x p) (e :: es) [] pos) (tMkX C nms ta) := by
  intro pins s σ H Q I h
  refine wpAny_Call_Name_kw (ld_glob I hg gC ?_ hdb)
  refine PySem.W.callWith_K (h₀ := X.base) I.ok.mod.kin T.ox.kC (thn (ha.run pos pins s σ H _ I h) fun us s1 hh => ?_) he hpl
  obtain ⟨vs, H1, I1, r1, hl, hten, q1⟩ := hh
  refine ⟨I1.kIn, ?_⟩
  show wpAny _ _ (call (.ref C) us) _ _ _
  have hlim := I1.nolimit
  obtain ⟨mb, b1, b2⟩ := I1.mod.blt
  have hlu : us.length = nms.length := by rw [← r1.length, hl]
  have hG : s1.heap.Ns mainGlobals X.mg := I1.mod.glob.keeps I1.bk
  have hB : s1.heap.Ns builtinsNs mb := b1.keeps I1.bk
  obtain ⟨hp, g, dr, tk, os⟩ := s1
  refine wpAny_call (PySem.LX.made T iC tC IR hlu (by rw [hlu, sizeLine_eq]; omega) I1.kIn hlim hG hB ((b2 "super" (by decide)).trans (by decide +kernel)) (by have := hr.dp; omega) fun h' tk' e' d t1 hne old hoe hdb' dne hns => ?_)
  show L2N.MkP X pins σ Q (.ref e') ⟨h', g, dr, tk', os⟩
  obtain ⟨G', g1, g2⟩ := restrict h' fun b => decide (b ≠ e')
  have gk : ∀ b, b ≠ e' → G'.get? b = h'.get? b := fun b hb => g1 b (decide_eq_true hb)
  have ge : G'.get? e' = none := g2 e' (by simp)
  have old' : ∀ b o, hp.get? b = some o → G'.get? b = some o := fun b o q => (gk b (Nat.ne_of_lt (Nat.lt_of_lt_of_le (Heap.lt_size q) hne))).trans (old b o q)
  have ob : ObjOk X.prog X.w (upd H1 d (.xd (nms.zip vs).reverse)) G' d (.xd (nms.zip vs).reverse) :=
    ⟨_, hns.at (fun o q => (gk d dne).trans q), relO_ns (paired_rev (paired_zip r1))⟩
  have J : Inv X pins σ (upd H1 d (.xd (nms.zip vs).reverse)) ⟨G', g, dr, tk', os⟩ := I1.laid (t' := tk') old' hdb' ob
  refine ⟨e', _, _, ⟨G', g, dr, tk', os⟩, _, .ref C, some d, rfl, J, fun b o q => ?_, ge, hoe, ⟨rfl, rfl, fun vs e => by cases e; rfl⟩, rfl, rfl, ?_, rfl, I1.bare, raises_own T.ox.exC T.ox.tyC, q1 d (I1.hok.fresh hdb')⟩
  · by_cases hb : b = e'
    · have q' : G'.get? b = some o := q
      rw [hb, ge] at q'; cases q'
    · exact (gk b hb).symm.trans q
  · rw [upd_ne (Ne.symm dne)]
    exact I1.hok.fresh hne
end
end L2

namespace PySem.W
open PySem PySem.Spec PySem.Calls PyProof.Rows
theorem kitx_excD {K : Frag} {x D : Addr} {ox : Obj} (T : PySem.LX.ExcT K D) : KitX K (.ref x) (.ref D) (fun h => ∃ od, InstAt h x ox D od) where
  ty := fun _ _ _ ⟨_, I⟩ => I.type
  it := fun _ _ X _ => by
    obtain ⟨cdD, hcD, _⟩ := any_some T.hd
    unfold clsIn at hcD
    split at hcD
    · rename_i c' d' cd' sl' ho
      intro A' Q' E' s' k q
      unfold isType loadHead
      exact wpAny_bind (wpAny_loadPart (k _ _ (X _ _ ho)) (wpAny_pure q))
    · cases hcD
  ne := fun h tp dd its n sl X htp => by
    obtain ⟨cdD, hcD, _⟩ := any_some T.hd
    refine Bool.eq_false_iff.mpr fun q => ?_
    have e : D = tp := Value.ref.inj (beq_iff_eq.mp q)
    subst e
    unfold clsIn at hcD
    split at hcD
    · rename_i c' d' cd' sl' ho
      have z := (X _ _ ho).symm.trans htp
      cases z
    · cases hcD
  ca := fun X ⟨_, I⟩ k => kx_classE X I T.ga T.gg T.ox.exC (findObj_dataE (by obtain ⟨cd, hc, _⟩ := any_some T.hd; rw [hc]; rfl) T.ha T.hn T.ht) T.hm k
end PySem.W
namespace L2
open PySem PySem.Spec PyProof.Rows
/-- d is the exception's own dict, or it has none -/
def DOk (H : Hp) (d : Option Addr) : Prop := d = none ∨ ∃ dd fs, d = some dd ∧ H dd = some (.xd fs)
theorem inst_exc {X : Cx} {a C : Addr} {oe : Obj} {cls : Value} {d : Option Addr} {pn pins : List (Addr × Obj)} {σ : St} {H : Hp} {s : Shared} (hz : Zc cls d oe) (hf : ∃ vs, oe.data = .fields vs) (I : Inv (X.suite a ((a, oe) :: pn)) pins σ H s) (hc : cls = .ref C) (hd : DOk H d) : ∃ od, PySem.W.InstAt s.heap a oe C od := by
  obtain ⟨hget, _⟩ := I.pin (a, oe) (List.mem_append.mpr (.inl List.mem_cons_self))
  obtain ⟨vs, hv⟩ := hf
  subst hc
  rcases hd with rfl | ⟨dd, fs, rfl, hx⟩
  · refine ⟨none, hget, hz.1, by unfold PySem.W.notCls; rw [hv] <;> rfl, by rw [hz.2]; trivial⟩
  · have hx' : ObjOk X.prog X.w H s.heap dd (.xd fs) := I.hok dd _ hx
    obtain ⟨mA, hns, hr⟩ := hx'
    obtain ⟨od, ho, hl⟩ := lookIn_ns hns
    exact ⟨some od, hget, hz.1, by unfold PySem.W.notCls; rw [hv] <;> rfl, by rw [hz.2]; exact ho⟩
/-- isinstance(e, c), e the exception that the suite holds -/
def rIsX (K : PySem.W.Frag) (cls : Value) (d : Option Addr) (a : Addr) : List V → Hp → VK → Prop := fun xs H Q => ∃ (D : Addr) (c : V) (cv : Value) (b : Bool), cls = .ref D ∧ PySem.LX.ExcT K D ∧ DOk H d ∧ xs = [.ref a, c] ∧ (∀ u, RelV c u → u = cv) ∧ PySem.W.kitOne K (.ref D) cv = some b ∧ Q (.bl b) H
theorem call_isX {X : Cx} {a : Addr} {oe : Obj} {cls : Value} {d : Option Addr} {pn : List (Addr × Obj)} (hz : Zc cls d oe) (hf : ∃ vs, oe.data = .fields vs) : CallR (X.suite a ((a, oe) :: pn)) (.builtin "isinstance") (rIsX X.K cls d a) := by
  intro pins s σ H xs us Q I r h
  obtain ⟨D, c, cv, b, hc, T, hd, rfl, hcv, e, q⟩ := h
  cases r with
  | cons rx rr =>
    cases rr with
    | cons rt rr =>
      cases rr
      cases rx
      have ec := hcv _ rt
      subst ec
      exact PySem.W.kia_one (PySem.W.kitx_excD (ox := oe) T) I.kIn (inst_exc hz hf I hc hd) e (fun z => nomatch z) fun tk => ⟨.bl b, H, I.kept (t' := tk) fun _ _ z => z, rfl, q⟩
/-- e.f -/
def tXd (K : PySem.W.Frag) (a : Addr) (cls : Value) (d : Option Addr) (f : Str) (te : TE) : TE := fun σ H Q => te σ H fun x H1 => x = .ref a ∧ ∃ (C dd : Addr) (fs : List (Str × V)) (v : V), cls = .ref C ∧ d = some dd ∧ PySem.LX.ExcT K C ∧ PySem.W.findIn K (.ref C) f = some none ∧ H1 dd = some (.xd fs) ∧ fs.lookup f = some v ∧ Q v H1
theorem pe_xd {X : Cx} {a : Addr} {oe : Obj} {cls : Value} {d : Option Addr} {pn : List (Addr × Obj)} {e : Expr} {te : TE} {pos : Pos} {n : Str}
    (hz : Zc cls d oe) (hf : ∃ vs, oe.data = .fields vs) (he : PE (X.suite a ((a, oe) :: pn)) e te) (hb : attributeBase e n X.env (eval e X.env) = eval e X.env := by rfl) :
    PE (X.suite a ((a, oe) :: pn)) (.Attribute e n pos) (tXd X.K a cls d n te) := by
  refine ⟨fun pins s σ H Q I h => ?_⟩
  refine attr_of hb (thn (he.run pins s σ H _ I h) fun u s1 hh => ?_)
  obtain ⟨x, H1, I1, rx, ex, C, dd, fs, v, ec, ed, T, hno, ea, l, q⟩ := hh
  subst ex
  obtain rfl : u = Value.ref a := rx
  subst ec
  subst ed
  obtain ⟨ha, _⟩ := I1.pin (a, oe) (List.mem_append_left _ List.mem_cons_self)
  obtain ⟨vs, hd⟩ := hf
  have hx : ObjOk X.prog X.w H1 s1.heap dd (.xd fs) := I1.hok dd _ ea
  obtain ⟨mA, hns, hr⟩ := hx
  obtain ⟨od, ho, hl⟩ := lookIn_ns hns
  obtain ⟨u, hu, ru⟩ := RelO.some_of (v := v) (o := mA n) (by rw [← l]; exact hr n)
  have J : PySem.W.InstAt s1.heap a oe C (some od) := ⟨ha, hz.1, by unfold PySem.W.notCls; rw [hd] <;> rfl, by rw [hz.2]; exact ho⟩
  exact HandSPX.exc_get I1.kIn J T.ga T.gg T.ox.exC (PySem.W.findObj_own T.hd hno rfl (by rw [hl, hu])) (handed_of ru) ⟨v, H1, I1.tok _, ru, q⟩
end L2

/-! A calculus of weakest wishes over the hand layer: ZE (expressions), ZT (tests), ZA (arguments), ZS, ZSs (statements), by their syntax. -/
namespace L2
open PySem PySem.Spec PyProof.Rows
section
variable {X : Cx}
structure ZE (X : Cx) (e : Expr) (σ : St) (H : Hp) (Q : VK) : Prop where
  run : ∀ pins s, Inv X pins σ H s → wpAny (model X.prog X.w) X.A (eval e X.env) (EP X pins σ Q) X.xe s
structure ZT (X : Cx) (e : Expr) (σ : St) (H : Hp) (Q : Bool → Hp → Prop) : Prop where
  run : ∀ pins s, Inv X pins σ H s → wpAny (model X.prog X.w) X.A (isTrue e X.env (eval e X.env)) (TP X pins σ Q) X.xe s
structure ZW (X : Cx) (e : Expr) (σ : St) (H : Hp) (Q : Bool → Hp → Prop) : Prop where
  run : ∀ whole pins s, Inv X pins σ H s → wpAny (model X.prog X.w) X.A (isTrue e X.env whole) (TP X pins σ Q) X.xe s
structure ZA (X : Cx) (es : List Expr) (σ : St) (H : Hp) (Q : List V → Hp → Prop) : Prop where
  run : ∀ pos pins s, Inv X pins σ H s → wpAny (model X.prog X.w) X.A (spliced (backTo pos (starEach es X.env))) (AP X pins σ Q) X.xe s
abbrev NX := St → Hp → Prop
structure ZS (X : Cx) (st : Stmt) (nx : NX) (rt : VK) (bk ct : NX) (σ : St) (H : Hp) : Prop where
  run : ∀ pins s, Inv X pins σ H s → wpAny (model X.prog X.w) X.A (exec st X.env) (SP X pins ⟨nx, rt, bk, ct⟩) X.xe s
structure ZSs (X : Cx) (st : List Stmt) (nx : NX) (rt : VK) (bk ct : NX) (σ : St) (H : Hp) : Prop where
  run : ∀ pins s, Inv X pins σ H s → wpAny (model X.prog X.w) X.A (execs st X.env) (SP X pins ⟨nx, rt, bk, ct⟩) X.xe s
structure ZG (X : Cx) (tg : Expr) (v : V) (σ : St) (H : Hp) (Q : St → Hp → Prop) : Prop where
  run : ∀ pins s u, Inv X pins σ H s → RelV v u → wpAny (model X.prog X.w) X.A (assign tg X.env u) (fun _ s' => ∃ σ' H', Inv X pins σ' H' s' ∧ Q σ' H') X.xe s
structure ZGs (X : Cx) (ts : List Expr) (vs : List V) (σ : St) (H : Hp) (Q : St → Hp → Prop) : Prop where
  run : ∀ pins s us, Inv X pins σ H s → Vals vs us → wpAny (model X.prog X.w) X.A (assignInOrder ((assignEach ts X.env).map (·.2)) us) (fun _ s' => ∃ σ' H', Inv X pins σ' H' s' ∧ Q σ' H') X.xe s
structure ZI (X : Cx) (tg iter : Expr) (σ : St) (H : Hp) (R : It → Hp → Prop) : Prop where
  run : ∀ pins s, Inv X pins σ H s → wpAny (model X.prog X.w) X.A (eval iter X.env) (fun v s1 => wpAny (model X.prog X.w) X.A (pyIter v) (PIE X pins σ tg R) X.xe s1) X.xe s
structure OpW (X : Cx) (f : Value → Value → Sem Value) (x y : V) (H : Hp) (Q : VK) : Prop where
  run : ∀ pins s σ v u, Inv X pins σ H s → RelV x v → RelV y u → wpAny (model X.prog X.w) X.A (f v u) (EP X pins σ Q) X.xe s
structure UnW (X : Cx) (f : Value → Sem Value) (x : V) (H : Hp) (Q : VK) : Prop where
  run : ∀ pins s σ v, Inv X pins σ H s → RelV x v → wpAny (model X.prog X.w) X.A (f v) (EP X pins σ Q) X.xe s
structure CallW (X : Cx) (f : Value) (xs : List V) (H : Hp) (Q : VK) : Prop where
  run : ∀ pins s σ us, Inv X pins σ H s → Vals xs us → wpAny (model X.prog X.w) X.A (call f us) (EP X pins σ Q) X.xe s
structure TruW (X : Cx) (x : V) (H : Hp) (Q : Bool → Hp → Prop) : Prop where
  run : ∀ pins s σ v, Inv X pins σ H s → RelV x v → wpAny (model X.prog X.w) X.A (truthy v) (TP X pins σ Q) X.xe s
structure MtW (X : Cx) (id : String) (x : V) (xs : List V) (H : Hp) (Q : VK) : Prop where
  run : ∀ pins s σ v us, Inv X pins σ H s → RelV x v → Vals xs us → wpAny (model X.prog X.w) X.A (call (.builtin id) (v :: us)) (EP X pins σ Q) X.xe s
structure IxW (X : Cx) (x y : V) (H : Hp) (Q : VK) : Prop where
  run : ∀ value slice pins s σ v u, Inv X pins σ H s → RelV x v → RelV y u → subscripted slice false v u = operate [v, u] (getItem v u) → wpAny (model X.prog X.w) X.A (subscriptTail value slice v u) (EP X pins σ Q) X.xe s
structure AtW (X : Cx) (f : Str) (x : V) (H : Hp) (Q : VK) : Prop where
  run : ∀ pins s σ u, Inv X pins σ H s → RelV x u → wpAny (model X.prog X.w) X.A (getAttr u f true) (EP X pins σ Q) X.xe s
structure SetW (X : Cx) (o i v : V) (H : Hp) (Q : Hp → Prop) : Prop where
  run : ∀ pins s σ ov iv u, Inv X pins σ H s → RelV o ov → RelV i iv → RelV v u → wpAny (model X.prog X.w) X.A (setItem ov iv u) (fun _ s' => ∃ H', Inv X pins σ H' s' ∧ Q H') X.xe s
structure SlW (X : Cx) (x : V) (lo hi : Option Int) (H : Hp) (Q : VK) : Prop where
  run : ∀ pins s σ v vl vu sl, Inv X pins σ H s → RelV x v → s.heap.IsSliceOf sl vl vu .none → IsPart vl lo → IsPart vu hi →
    ∃ T id, typeLookup (.type T) "__getitem__" = pure (some (.builtin id)) ∧ s.TypeIs v T ∧ wpAny (model X.prog X.w) X.A (getItem v (.ref sl)) (EP X pins σ Q) X.xe s
structure IpW (X : Cx) (op : Operator) (x y : V) (H : Hp) (Q : VK) : Prop where
  run : ∀ pins s σ v u, Inv X pins σ H s → RelV x v → RelV y u → wpAny (model X.prog X.w) X.A (inplaceOp op v u) (EP X pins σ Q) X.xe s

variable {e a b c : Expr} {es : List Expr} {st : Stmt} {sts rest : List Stmt} {t : TE} {tt : TT} {ta : TA} {ts : TS} {σ : St} {H : Hp} {Q : VK} {D : Ends} {pos : Pos}
theorem pe_we : PE X e (ZE X e) := ⟨fun pins s σ H Q I h => h.run pins s I⟩
theorem pt_wt : PT X e (ZT X e) := ⟨fun pins s σ H Q I h => h.run pins s I⟩
theorem pw_ww : PW X e (ZW X e) := ⟨fun wh pins s σ H Q I h => h.run wh pins s I⟩
theorem pa_wa : PA X es (ZA X es) := ⟨fun pos pins s σ H Q I h => h.run pos pins s I⟩
theorem ps_ws : PS X st (fun D σ H => ZS X st D.nx D.rt D.bk D.ct σ H) := ⟨fun pins s σ H D I h => h.run pins s I⟩
theorem pss_wss : PSs X sts (fun D σ H => ZSs X sts D.nx D.rt D.bk D.ct σ H) := ⟨fun pins s σ H D I h => h.run pins s I⟩
theorem pg_wg : PG X e (ZG X e) := ⟨fun pins s σ H v u Q I r h => h.run pins s u I r⟩
theorem pgs_wgs : PGs X es (ZGs X es) := ⟨fun pins s σ H vs us Q I r h => h.run pins s us I r⟩
theorem pi_wi : PI X a b (ZI X a b) := ⟨fun pins s σ H R I h => h.run pins s I⟩
theorem op_w {f : Value → Value → Sem Value} : OpR X f (OpW X f) := fun pins s σ H x y v u Q I rx ry h => h.run pins s σ v u I rx ry
theorem un_w {f : Value → Sem Value} : UnR X f (UnW X f) := fun pins s σ H x v Q I rx h => h.run pins s σ v I rx
theorem call_w {f : Value} : CallR X f (CallW X f) := fun pins s σ H xs us Q I r h => h.run pins s σ us I r
theorem tru_w : TruR X (TruW X) := fun pins s σ H x v Q I r h => h.run pins s σ v I r
theorem mt_w {id : String} : MtR X id (MtW X id) := fun pins s σ H x xs v us Q I rx r h => h.run pins s σ v us I rx r
theorem ix_w : IxR X (IxW X) := fun value slice pins s σ H x y v u Q I rx ry h e => h.run value slice pins s σ v u I rx ry e
theorem set_w : PSet X (SetW X) := fun pins s σ H o i v ov iv u Q I ro ri rv h => h.run pins s σ ov iv u I ro ri rv
theorem sl_w : SlR X (SlW X) := fun pins s σ H x v vl vu lo hi sl Q I rx hs pl pu h => h.run pins s σ v vl vu sl I rx hs pl pu
theorem ip_w {op : Operator} : PIp X op (IpW X op) := fun pins s σ H x y v u Q I rx ry h => h.run pins s σ v u I rx ry
theorem PE.w (h : PE X e t) (q : t σ H Q) : ZE X e σ H Q := ⟨fun pins s I => h.run pins s σ H Q I q⟩
theorem PT.w (h : PT X e tt) {Q : Bool → Hp → Prop} (q : tt σ H Q) : ZT X e σ H Q := ⟨fun pins s I => h.run pins s σ H Q I q⟩
theorem PW.w (h : PW X e tt) {Q : Bool → Hp → Prop} (q : tt σ H Q) : ZW X e σ H Q := ⟨fun wh pins s I => h.run wh pins s σ H Q I q⟩
theorem PA.w (h : PA X es ta) {Q : List V → Hp → Prop} (q : ta σ H Q) : ZA X es σ H Q := ⟨fun pos pins s I => h.run pos pins s σ H Q I q⟩
variable {nx bk ct : NX} {rt : VK}
theorem PS.w (h : PS X st ts) (q : ts ⟨nx, rt, bk, ct⟩ σ H) : ZS X st nx rt bk ct σ H := ⟨fun pins s I => h.run pins s σ H _ I q⟩
theorem PSs.w (h : PSs X sts ts) (q : ts ⟨nx, rt, bk, ct⟩ σ H) : ZSs X sts nx rt bk ct σ H := ⟨fun pins s I => h.run pins s σ H _ I q⟩
theorem PG.w {g : TG} (h : PG X e g) {v : V} {Q : St → Hp → Prop} (q : g v σ H Q) : ZG X e v σ H Q := ⟨fun pins s u I r => h.run pins s σ H v u Q I r q⟩
theorem PGs.w {g : TGs} (h : PGs X es g) {vs : List V} {Q : St → Hp → Prop} (q : g vs σ H Q) : ZGs X es vs σ H Q := ⟨fun pins s us I r => h.run pins s σ H vs us Q I r q⟩
theorem PI.w {wi : TI} (h : PI X a b wi) {R : It → Hp → Prop} (q : wi σ H R) : ZI X a b σ H R := ⟨fun pins s I => h.run pins s σ H R I q⟩
theorem OpR.w {f : Value → Value → Sem Value} {r : R2} (h : OpR X f r) {x y : V} (q : r x y H Q) : OpW X f x y H Q := ⟨fun pins s σ v u I rx ry => h pins s σ H x y v u Q I rx ry q⟩
theorem UnR.w {f : Value → Sem Value} {r : V → Hp → VK → Prop} (h : UnR X f r) {x : V} (q : r x H Q) : UnW X f x H Q := ⟨fun pins s σ v I rx => h pins s σ H x v Q I rx q⟩
theorem CallR.w {f : Value} {r : List V → Hp → VK → Prop} (h : CallR X f r) {xs : List V} (q : r xs H Q) : CallW X f xs H Q := ⟨fun pins s σ us I rx => h pins s σ H xs us Q I rx q⟩
theorem MtR.w {id : String} {r : V → List V → Hp → VK → Prop} (h : MtR X id r) {x : V} {xs : List V} (q : r x xs H Q) : MtW X id x xs H Q := ⟨fun pins s σ v us I rx rs => h pins s σ H x xs v us Q I rx rs q⟩
theorem IxR.w {r : R2} (h : IxR X r) {x y : V} (q : r x y H Q) : IxW X x y H Q := ⟨fun value slice pins s σ v u I rx ry e => h value slice pins s σ H x y v u Q I rx ry q e⟩
theorem PSet.w {r : TSet} (h : PSet X r) {o i v : V} {Q : Hp → Prop} (q : r o i v H Q) : SetW X o i v H Q := ⟨fun pins s σ ov iv u I ro ri rv => h pins s σ H o i v ov iv u Q I ro ri rv q⟩
theorem SlR.w {r : V → Option Int → Option Int → Hp → VK → Prop} (h : SlR X r) {x : V} {lo hi : Option Int} (q : r x lo hi H Q) : SlW X x lo hi H Q := ⟨fun pins s σ v vl vu sl I rx hs pl pu => h pins s σ H x v vl vu lo hi sl Q I rx hs pl pu q⟩
theorem PIp.w {op : Operator} {r : TIp} (h : PIp X op r) {x y : V} (q : r x y H Q) : IpW X op x y H Q := ⟨fun pins s σ v u I rx ry => h pins s σ H x y v u Q I rx ry q⟩

/-! ### expressions -/
theorem ze_var (i : Nat) {x : Str} {v : V} (hN : X.N[i]? = some x) (hv : σ[i]? = some (some v)) (q : Q v H) (vi : Vis X.env.scope x := by first | exact Or.inl rfl | exact Or.inr (Or.inl rfl) | exact Or.inr (Or.inr rfl))
    (hd : (x == ("__debug__" : Str)) = false := by decide) (hcd : (x == ("__classdict__" : Str)) = false := by decide) : ZE X (.Name x pos) σ H Q := (pe_var hN vi hd hcd).w ⟨v, hv, q⟩
theorem ze_int {i : Int} {j : Nat} (q : Q (.int i) H) : ZE X (.Constant (.int i) j pos) σ H Q := pe_int.w q
theorem ze_bl {i : Bool} {j : Nat} (q : Q (.bl i) H) : ZE X (.Constant (.bool i) j pos) σ H Q := pe_bl.w q
theorem ze_str {i : Str} {j : Nat} (q : Q (.str i) H) : ZE X (.Constant (.str i) j pos) σ H Q := pe_str.w q
theorem ze_non {j : Nat} (q : Q .non H) : ZE X (.Constant .none j pos) σ H Q := pe_non.w q
theorem ze_glob {x : Str} {v : V} {u : Value} (hm : X.mg x = some u) (r : RelV v u) (q : Q v H) (hg : Gl X x := by rfl) (hd : (x == ("__debug__" : Str)) = false := by decide) : ZE X (.Name x pos) σ H Q := (pe_glob hg hm r hd).w q
theorem ze_bltn {x : Str} {v : V} {u : Value} (hm : X.mg x = none) (hv : bootBuiltins x = some u) (r : RelV v u) (q : Q v H) (hg : Gl X x := by rfl) (hn : x ≠ "__name__" := by decide) (hd : (x == ("__debug__" : Str)) = false := by decide) : ZE X (.Name x pos) σ H Q := (pe_bltn hg hm hv r hn hd).w q
theorem ze_op {op : Operator} (h : ZE X a σ H fun x H1 => ZE X b σ H1 fun y H2 => OpW X (binaryOp op) x y H2 Q) : ZE X (.BinOp a op b pos) σ H Q := (pe_op op_w pe_we pe_we).w h
theorem ze_un {op : UnaryOp} (h : ZE X a σ H fun x H1 => UnW X (unaryOp op) x H1 Q) : ZE X (.UnaryOp op a pos) σ H Q := (pe_un un_w pe_we).w h
theorem ze_notV (h : ZE X a σ H fun x H1 => ∃ c, x = .bl c ∧ Q (.bl (!c)) H1) : ZE X (.UnaryOp .Not a pos) σ H Q := (pe_not pe_we).w h
theorem ze_cmp {op : CmpOp} (hm : behindInMarks op b = false) (h : ZE X a σ H fun x H1 => ZE X b σ H1 fun y H2 => OpW X (compareOp op) x y H2 Q) : ZE X (.Compare a [op] [b] pos) σ H Q := (pe_cmpR op_w pe_we pe_we hm).w h
theorem ze_chain {op op' : CmpOp} (hm : lastMarks [op, op'] [b, c] = false) (h : ZE X a σ H fun x H1 => ZE X b σ H1 fun y H2 => OpW X (compareOp op) x y H2 fun z H3 => ∃ k, z = .bl k ∧ (if k = true then ZE X c σ H3 fun w' H4 => OpW X (compareOp op') y w' H4 Q else Q (.bl false) H3)) : ZE X (.Compare a [op, op'] [b, c] pos) σ H Q := (pe_chain op_w op_w pe_we pe_we pe_we hm).w h
theorem ze_and1 {op : BoolOp} (h : ZE X a σ H Q) : ZE X (.BoolOp op [a] pos) σ H Q := (pe_one pe_we).w h
theorem ze_and (h : ZE X a σ H fun x H1 => ∃ c, x = .bl c ∧ if c = true then ZE X (.BoolOp .And (b :: es) pos) σ H1 Q else Q (.bl false) H1) : ZE X (.BoolOp .And (a :: b :: es) pos) σ H Q := (pe_and pe_we pe_we).w h
theorem ze_or (h : ZE X a σ H fun x H1 => ∃ c, x = .bl c ∧ if c = true then Q (.bl true) H1 else ZE X (.BoolOp .Or (b :: es) pos) σ H1 Q) : ZE X (.BoolOp .Or (a :: b :: es) pos) σ H Q := (pe_or pe_we pe_we).w h
theorem ze_if (h : ZT X c σ H fun k H1 => if k = true then ZE X a σ H1 Q else ZE X b σ H1 Q) : ZE X (.IfExp c a b pos) σ H Q := (pe_ifExp pt_wt pe_we pe_we).w h
theorem ze_tup {k : Nat} (h : ZA X es σ H fun xs H1 => xs.length ≤ sizeLine ∧ ∀ p, H1 p = none → Q (.ref p) (upd H1 p (.tup xs))) : ZE X (.Tuple es k pos) σ H Q := (pe_tup pa_wa).w h
theorem ze_lst (h : ZA X es σ H fun xs H1 => xs.length ≤ sizeLine ∧ ∀ p, H1 p = none → Q (.ref p) (upd H1 p (.lst xs))) : ZE X (.List es pos) σ H Q := (pe_lst pa_wa).w h
theorem za_nil {Q : List V → Hp → Prop} (q : Q [] H) : ZA X [] σ H Q := pa_nil.w q
theorem za_cons {Q : List V → Hp → Prop} (h : ZE X e σ H fun x H1 => ZA X es σ H1 fun xs H2 => Q (x :: xs) H2) (hs : starEach (e :: es) X.env = (false, eval e X.env) :: starEach es X.env := by rfl) : ZA X (e :: es) σ H Q := (pa_cons pe_we pa_wa hs).w h
theorem ze_sub (h : ZE X a σ H fun x H1 => ZE X b σ H1 fun y H2 => IxW X x y H2 Q) (hs : PlainIx b := by exact fun _ _ => rfl) : ZE X (.Subscript a b pos) σ H Q := (pe_ix ix_w pe_we pe_we hs).w h
def ZO (X : Cx) (e : Option Expr) : TO := match e with
  | none => tNoPart
  | some e => tPart (fun σ H Q => ZE X e σ H Q)
theorem po_wo : ∀ {e : Option Expr}, PO X e (ZO X e)
  | none => po_none
  | some _ => po_some pe_we
theorem ze_slice {lo hi : Option Expr} {p2 : Pos} (h : ZE X a σ H fun x H1 => ZO X lo σ H1 fun l H2 => ZO X hi σ H2 fun u H3 => SlW X x l u H3 Q) : ZE X (.Subscript a (.Slice lo hi none p2) pos) σ H Q := (pe_slice sl_w pe_we po_wo po_wo).w h
theorem zo_none {Q : Option Int → Hp → Prop} (q : Q none H) : ZO X none σ H Q := q
theorem zo_some {Q : Option Int → Hp → Prop} (h : ZE X e σ H fun x H1 => ∃ i, x = .int i ∧ Q (some i) H1) : ZO X (some e) σ H Q := h
theorem ze_attr {f : Str} (h : ZE X a σ H fun x H1 => AtW X f x H1 Q) (hb : attributeBase a f X.env (eval a X.env) = eval a X.env := by rfl) : ZE X (.Attribute a f pos) σ H Q := ⟨fun pins s I =>
  attr_of hb (thn (h.run pins s I) fun u s1 ⟨x, H1, I1, rx, q⟩ => q.run pins s1 σ u I1 rx)⟩
/-- a built-in function's call -/
theorem ze_callB {x : Str} {id : String} {p : Pos} (hm : X.mg x = none) (hv : bootBuiltins x = some (.builtin id)) (h : ZA X (e :: es) σ H fun vs H1 => CallW X (.builtin id) vs H1 Q) (hg : Gl X x := by rfl) (hn : x ≠ "__name__" := by decide) (hdb : (x == ("__debug__" : Str)) = false := by decide)
    (he : starEach (e :: es) X.env = (false, eval e X.env) :: starEach es X.env := by rfl) (hpl : (backTo pos (starEach es X.env)).any (·.1) = false := by rfl) : ZE X (.Call (.Name x p) (e :: es) [] pos) σ H Q := (pe_callB call_w hg hm hv pa_wa hn hdb he hpl).w h
theorem ze_callT {x : Str} {T : String} {p : Pos} (hm : X.mg x = none) (hv : bootBuiltins x = some (.type T)) (h : ZA X (e :: es) σ H fun vs H1 => CallW X (.type T) vs H1 Q) (hg : Gl X x := by rfl) (hn : x ≠ "__name__" := by decide) (hdb : (x == ("__debug__" : Str)) = false := by decide)
    (he : starEach (e :: es) X.env = (false, eval e X.env) :: starEach es X.env := by rfl) (hpl : (backTo pos (starEach es X.env)).any (·.1) = false := by rfl) : ZE X (.Call (.Name x p) (e :: es) [] pos) σ H Q := (pe_callTy call_w hg hm hv pa_wa hn hdb he hpl).w h
/-- a built-in type's method -/
theorem ze_bm0 {T id : String} {name : Str} {apos : Pos} (pl : PlainAttrs T) (slot : Slot T name id) (hty : typeOf (.builtin id) = pure (.type "method_descriptor")) (h : ZE X a σ H fun x H1 => tyV X.K T x H1 ∧ MtW X id x [] H1 Q)
    (hbase : attributeBase a name X.env (eval a X.env) = eval a X.env := by rfl) (hline : (apos.endLine == pos.line) = true := by rfl) : ZE X (.Call (.Attribute a name apos) [] [] pos) σ H Q := (pe_bm0 pl slot hty mt_w pe_we hbase hline).w h
theorem ze_bm {T id : String} {name : Str} {apos : Pos} (pl : PlainAttrs T) (slot : Slot T name id) (hty : typeOf (.builtin id) = pure (.type "method_descriptor")) (h : ZE X a σ H fun x H1 => tyV X.K T x H1 ∧ ZA X (e :: es) σ H1 fun xs H2 => MtW X id x xs H2 Q)
    (hbase : attributeBase a name X.env (eval a X.env) = eval a X.env := by rfl)
    (hfew : ((backTo pos (starEach (e :: es) X.env)).all (fun x => !x.1) && (backToKw pos (keywordEach [] X.env)).all (fun x => x.1.isSome)
      && decide ((e :: es).length + ([] : List Keyword).length + (if ([] : List Keyword).isEmpty then 0 else 1) < 30)) = true := by rfl)
    (hline : (apos.endLine == pos.line) = true := by rfl) (hs : starEach (e :: es) X.env = (false, eval e X.env) :: starEach es X.env := by rfl) (hplain : (backTo pos (starEach es X.env)).any (·.1) = false := by rfl) :
    ZE X (.Call (.Attribute a name apos) (e :: es) [] pos) σ H Q := (pe_bm pl slot hty mt_w pe_we pa_wa hbase hfew hline hs hplain).w h
end

/-! ### calls of the text's own defs -/
/-- the weakest wish of an exception -/
def XW (X : Cx) : WX := fun cls d σ H => ∀ u s' (a : Addr) (B : Heap) (sI : Shared) (pins : List (Addr × Obj)),
    u = .ref a → Inv X pins σ H sI → (∀ b o, sI.heap.get? b = some o → b ∉ frs X.stack → B.get? b = some o) → sI.heap.UpToSlots s'.heap → Sky B X.stack a (L2N.Zn cls d) X.env.locals s'.heap → H a = none → s'.os = sI.os → AllBare s'.gens → X.xe u s'
theorem takes_xw {X : Cx} : L2N.Takes X (XW X) := fun u s' ⟨a, B, sI, pins, σ, H, cls, d, e1, I, h2, h3, h4, h5, h6, h7, w⟩ => w u s' a B sI pins e1 I h2 h3 h4 h5 h6 h7
theorem xw_of {X : Cx} {W : WX} (tk : L2N.Takes X W) {cls : Value} {d : Option Addr} {σ : St} {H : Hp} (h : W cls d σ H) : XW X cls d σ H := fun u s' a B sI pins e1 I h2 h3 h4 h5 h6 h7 => tk u s' ⟨a, B, sI, pins, σ, H, cls, d, e1, I, h2, h3, h4, h5, h6, h7, h⟩
/-- a def as a name of the module, with its promise (the arguments behind the given ones by their defaults) -/
structure Cal (P : Program) (w : World) (K : PySem.W.Frag) (mg : Str → Option Value) (base : Heap) (k : Nat) (x : Str) (sp : Sp) : Prop where
  ex : ∃ (f : Addr) (fd : FuncData) (ps : List Str) (dvs : List V) (ds : List Value) (sp0 : Sp), FnOk P w K mg base (L2N.CX P w) k f fd ps sp0 ∧ mg x = some (.ref f) ∧ PySem.W.keepIn K (.ref f) = true ∧ Binds K fd ps ds ∧ Vals dvs ds ∧ ∀ vs H Q E, sp vs H Q E → sp0 (vs ++ dvs) H Q E
section
variable {X : Cx} {e a : Expr} {es : List Expr} {σ : St} {H : Hp} {Q : VK} {p pos apos : Pos}
theorem zrun {k : Nat} {f : Addr} {fd : FuncData} {ps : List Str} {sp : Sp} {ds : List Value} {dvs : List V} {pins : List (Addr × Obj)} {s : Shared} {us : List Value} {vs : List V} (F : FnOk X.prog X.w X.K X.mg X.base (L2N.CX X.prog X.w) k f fd ps sp) (hr : Room k X.A) (hb : Binds X.K fd ps ds) (hd : Vals dvs ds)
    (I : Inv X pins σ H s) (r : Vals vs us) (h : sp (vs ++ dvs) H Q fun cls d H' => XW X cls d σ H') : wpAny (model X.prog X.w) X.A (call (.ref f) us) (EP X pins σ Q) X.xe s := by
  have rr : Vals (vs ++ dvs) (us ++ ds) := r.append hd
  have hl : (us ++ ds).length = ps.length := by rw [← rr.length]; exact F.len _ _ _ _ h
  refine wpAny_call (codeAny_mono (F.run X.A X.stack s H ⟨us, []⟩ (us ++ ds) (vs ++ dvs) Q _ hr I.env0 (hb s us I.kIn hl) rr h) fun r s' hq => ?_)
  cases r with
  | error e => exact takes_xw e s' (L2N.XE.of_call I (fun cls d H' w => w) hq)
  | ok fl =>
    cases fl with
    | ret u => exact I.after hq
    | next => exact False.elim hq
    | brk => exact False.elim hq
    | cont => exact False.elim hq
theorem ze_call {x : Str} {k j : Nat} {sp : Sp} (c : Cal X.prog X.w X.K X.mg X.base k x sp) (hr : Room j X.A) (hk : k ≤ j) (h : ZA X (e :: es) σ H fun vs H1 => sp vs H1 Q fun cls d H' => XW X cls d σ H') (hg : Gl X x := by rfl)
    (hdb : (x == ("__debug__" : Str)) = false := by decide) (he : starEach (e :: es) X.env = (false, eval e X.env) :: starEach es X.env := by rfl) (hpl : (backTo pos (starEach es X.env)).any (·.1) = false := by rfl) : ZE X (.Call (.Name x p) (e :: es) [] pos) σ H Q := by
  obtain ⟨f, fd, ps, dvs, ds, sp0, F, gm, kp, hb, hd, im⟩ := c.ex
  refine ⟨fun pins s I => ?_⟩
  refine wpAny_Call_Name_kw (ld_glob I hg gm ?_ hdb)
  refine PySem.W.callWith_K (h₀ := X.base) I.ok.mod.kin kp (thn (h.run pos pins s I) fun us s1 ⟨vs, H1, I1, r, q⟩ => ⟨I1.kIn, ?_⟩) he hpl
  exact zrun F (hr.mono hk) hb hd I1 r (im _ _ _ _ q)
theorem ze_call0 {x : Str} {k j : Nat} {sp : Sp} (c : Cal X.prog X.w X.K X.mg X.base k x sp) (hr : Room j X.A) (hk : k ≤ j) (h : sp [] H Q fun cls d H' => XW X cls d σ H') (hg : Gl X x := by rfl)
    (hdb : (x == ("__debug__" : Str)) = false := by decide) : ZE X (.Call (.Name x p) [] [] pos) σ H Q := by
  obtain ⟨f, fd, ps, dvs, ds, sp0, F, gm, kp, hb, hd, im⟩ := c.ex
  refine ⟨fun pins s I => ?_⟩
  refine wpAny_Call_Name_kw (ld_glob I hg gm ?_ hdb)
  exact PySem.W.callWith_K0 I.kIn kp (zrun (us := []) F (hr.mono hk) hb hd I .nil (im _ _ _ _ h))
/-- a method of an own class, with its promise -/
structure CalM (P : Program) (w : World) (K : PySem.W.Frag) (mg : Str → Option Value) (base : Heap) (k : Nat) (C : Addr) (m : Str) (sp : Sp) : Prop where
  ex : ∃ (f : Addr) (fd : FuncData) (ps : List Str) (dvs : List V) (ds : List Value) (sp0 : Sp), FnOk P w K mg base (L2N.CX P w) k f fd ps sp0 ∧ Meth K C m f ∧ Binds K fd ps ds ∧ Vals dvs ds ∧ ∀ vs H Q E, sp vs H Q E → sp0 (vs ++ dvs) H Q E
theorem ze_meth {pl : Sem Bool} {m : Str} {j : Nat} (hr : Room j X.A) (h : ZE X a σ H fun x H1 => ∃ (p C dx : Addr) (fs : List (Str × V)) (k : Nat) (sp : Sp), x = .ref p ∧ H1 p = some (.ins C dx fs) ∧ Cls X.K C ∧ CalM X.prog X.w X.K X.mg X.base k C m sp ∧ k ≤ j ∧ fs.lookup m = none ∧
      ZA X (e :: es) σ H1 fun vs H2 => sp (x :: vs) H2 Q fun cls d H' => XW X cls d σ H')
    (hst : starEach (e :: es) X.env = (false, eval e X.env) :: starEach es X.env := by rfl) (hpl : (backTo pos (starEach es X.env)).any (·.1) = false := by rfl)
    (ht : eval (.Call (.Attribute a m apos) (e :: es) [] pos) X.env = (do
      let ov ← eval a X.env
      standAt apos.atName
      let (f, first) ← holding [ov] (getMethod ov m pl)
      callWith pos f first (backTo pos (starEach (e :: es) X.env)) (backToKw pos (keywordEach [] X.env))) := by rfl) : ZE X (.Call (.Attribute a m apos) (e :: es) [] pos) σ H Q := by
  refine ⟨fun pins s I => ?_⟩
  refine PySem.W.methodCall_KW (pl := pl) (thn (h.run pins s I) fun u s1 ⟨x, H1, I1, rx, p, C, dx, fs, k, sp, ex, ea, c, cm, hk, l, q⟩ => ?_) ht
  subst ex
  obtain rfl : u = Value.ref p := rx
  obtain ⟨f, fd, ps, dvs, ds, sp0, F, hm, hb, hd, im⟩ := cm.ex
  refine getmeth_ok I1 ea c hm l ?_
  refine PySem.W.callWith_K (first := [.ref p]) (h₀ := X.base) I.ok.mod.kin hm.kp (thn (q.run pos pins s1 I1) fun us s2 ⟨vs, H2, I2, r, q2⟩ => ⟨I2.kIn, ?_⟩) hst hpl
  exact zrun (us := .ref p :: us) (vs := .ref p :: vs) F (hr.mono hk) hb hd I2 (.cons rfl r) (im _ _ _ _ q2)
theorem ze_meth0 {pl : Sem Bool} {m : Str} {j : Nat} (hr : Room j X.A) (h : ZE X a σ H fun x H1 => ∃ (p C dx : Addr) (fs : List (Str × V)) (k : Nat) (sp : Sp), x = .ref p ∧ H1 p = some (.ins C dx fs) ∧ Cls X.K C ∧ CalM X.prog X.w X.K X.mg X.base k C m sp ∧ k ≤ j ∧ fs.lookup m = none ∧
      sp [x] H1 Q fun cls d H' => XW X cls d σ H')
    (ht : eval (.Call (.Attribute a m apos) [] [] pos) X.env = (do
      let ov ← eval a X.env
      standAt apos.atName
      let (f, first) ← holding [ov] (getMethod ov m pl)
      callWith pos f first (backTo pos (starEach [] X.env)) (backToKw pos (keywordEach [] X.env))) := by rfl) : ZE X (.Call (.Attribute a m apos) [] [] pos) σ H Q := by
  refine ⟨fun pins s I => ?_⟩
  refine PySem.W.methodCall_KW (pl := pl) (thn (h.run pins s I) fun u s1 ⟨x, H1, I1, rx, p, C, dx, fs, k, sp, ex, ea, c, cm, hk, l, q⟩ => ?_) ht
  subst ex
  obtain rfl : u = Value.ref p := rx
  obtain ⟨f, fd, ps, dvs, ds, sp0, F, hm, hb, hd, im⟩ := cm.ex
  refine getmeth_ok I1 ea c hm l ?_
  refine PySem.W.callWith_K0 (first := [.ref p]) I1.kIn hm.kp ?_
  exact zrun (us := [.ref p]) (vs := [.ref p]) F (hr.mono hk) hb hd I1 (.cons rfl .nil) (im _ _ _ _ q)
end

/-! ### tests -/
section
variable {X : Cx} {e a b c : Expr} {es : List Expr} {st : Stmt} {sts rest : List Stmt} {σ : St} {H : Hp} {nx bk ct : NX} {rt : VK} {pos : Pos} {Q : Bool → Hp → Prop}
theorem zt_cmp {op : CmpOp} (hm : behindInMarks op b = false) (h : ZE X a σ H fun x H1 => ZE X b σ H1 fun y H2 => OpW X (compareOp op) x y H2 fun z H3 => ∃ k, z = .bl k ∧ Q k H3) : ZT X (.Compare a [op] [b] pos) σ H Q := (pt_cmpR op_w pe_we pe_we hm).w h
theorem zt_chain {op op' : CmpOp} (hm : lastMarks [op, op'] [b, c] = false) (h : ZE X a σ H fun x H1 => ZE X b σ H1 fun y H2 => OpW X (compareOp op) x y H2 fun z H3 => ∃ k, z = .bl k ∧ (if k = true then ZE X c σ H3 fun w' H4 => OpW X (compareOp op') y w' H4 (fun z H5 => ∃ k, z = .bl k ∧ Q k H5) else ∃ k, V.bl false = .bl k ∧ Q k H3)) : ZT X (.Compare a [op, op'] [b, c] pos) σ H Q := (pt_chain op_w op_w pe_we pe_we pe_we hm).w h
theorem zt_val (h : ZE X e σ H fun x H1 => ∃ k, x = .bl k ∧ Q k H1) (he : ∀ whole, isTrue e X.env whole = (do let v ← whole; standAt e.pos; holding [v] (truthy v)) := by intro _; rfl) : ZT X e σ H Q := (pt_val pe_we he).w h
theorem zt_truth (h : ZE X e σ H fun x H1 => ∃ k, TruV X.K x H1 k ∧ Q k H1) (he : ∀ whole, isTrue e X.env whole = (do let v ← whole; standAt e.pos; holding [v] (truthy v)) := by intro _; rfl) : ZT X e σ H Q := (pt_truth pe_we he).w h
theorem zt_not (h : ZT X e σ H fun k H1 => Q (!k) H1) : ZT X (.UnaryOp .Not e pos) σ H Q := (pt_not pt_wt).w h
theorem zt_w (h : ZW X e σ H Q) : ZT X e σ H Q := pw_ww.pt.w h
theorem zw_and1 (h : ZT X a σ H Q) : ZW X (.BoolOp .And [a] pos) σ H Q := (pw_and1 pt_wt).w h
theorem zw_or1 (h : ZT X a σ H Q) : ZW X (.BoolOp .Or [a] pos) σ H Q := (pw_or1 pt_wt).w h
theorem zw_and (h : ZT X a σ H fun k H1 => if k = true then ZW X (.BoolOp .And (b :: es) pos) σ H1 Q else Q false H1) : ZW X (.BoolOp .And (a :: b :: es) pos) σ H Q := (pw_and pt_wt pw_ww).w h
theorem zw_or (h : ZT X a σ H fun k H1 => if k = true then Q true H1 else ZW X (.BoolOp .Or (b :: es) pos) σ H1 Q) : ZW X (.BoolOp .Or (a :: b :: es) pos) σ H Q := (pw_or pt_wt pw_ww).w h
theorem zt_and (h : ZT X a σ H fun k H1 => if k = true then ZW X (.BoolOp .And (b :: es) pos) σ H1 Q else Q false H1) : ZT X (.BoolOp .And (a :: b :: es) pos) σ H Q := zt_w (zw_and h)
theorem zt_or (h : ZT X a σ H fun k H1 => if k = true then Q true H1 else ZW X (.BoolOp .Or (b :: es) pos) σ H1 Q) : ZT X (.BoolOp .Or (a :: b :: es) pos) σ H Q := zt_w (zw_or h)

/-! ### statements -/
theorem zss_nil (q : nx σ H) : ZSs X [] nx rt bk ct σ H := pss_nil.w q
theorem zss_cons (h : ZS X st (fun σ' H' => ZSs X rest nx rt bk ct σ' H') rt bk ct σ H) : ZSs X (st :: rest) nx rt bk ct σ H := (pss_cons ps_ws pss_wss).w h
theorem zss_one (h : ZS X st nx rt bk ct σ H) : ZSs X [st] nx rt bk ct σ H := (pss_one ps_ws).w h
theorem zs_pass (q : nx σ H) : ZS X (.Pass pos) nx rt bk ct σ H := ps_pass.w q
theorem zs_break (q : bk σ H) : ZS X (.Break pos) nx rt bk ct σ H := ps_break.w q
theorem zs_continue (q : ct σ H) : ZS X (.Continue pos) nx rt bk ct σ H := ps_continue.w q
theorem zs_expr (h : ZE X e σ H fun _ H1 => nx σ H1) (hs : swapsWith e none pos.line X.env = pure false := by rfl) : ZS X (.Expr e pos) nx rt bk ct σ H := (ps_expr pe_we hs).w h
theorem zs_ret (h : ZE X e σ H rt) : ZS X (.Return (some e) pos) nx rt bk ct σ H := (ps_ret pe_we).w h
theorem zs_retN (q : rt .non H) : ZS X (.Return none pos) nx rt bk ct σ H := ps_retN.w q
theorem zs_if (h : ZT X c σ H fun k H1 => if k = true then ZSs X sts nx rt bk ct σ H1 else ZSs X rest nx rt bk ct σ H1) : ZS X (.If c sts rest pos) nx rt bk ct σ H := (ps_if pt_wt pss_wss pss_wss).w h
theorem zs_asg (h : ZE X e σ H fun x H1 => ZG X a x σ H1 nx) (hs : swapsWithSole [a] e pos.line X.env = pure false := by rfl) (hw : swappedStores [a] e X.env = pure none := by rfl)
    (h1 : (assignEach [a] X.env).map (·.2) = [assign a X.env] := by rfl) : ZS X (.Assign [a] e pos) nx rt bk ct σ H := (ps_asg pe_we pg_wg hs hw h1).w h
theorem zs_set (i : Nat) {x : Str} {pos' : Pos} (hN : X.N.Nodup) (hi : X.N[i]? = some x) (h : ZE X e σ H fun v H1 => nx (σ.set i (some v)) H1) (hx : Loc X.env.scope x := by first | exact Or.inl rfl | exact Or.inr rfl)
    (hs : swapsWith e (some (.Name x pos')) pos.line X.env = pure false := by rfl) (hf : X.fn x = true ∨ X.env.scope.names.lookup x = some .local := by first | exact .inl rfl | exact .inr rfl | assumption) : ZS X (.Assign [.Name x pos'] e pos) nx rt bk ct σ H := (ps_set hN hi hx pe_we hs hf).w h
theorem zs_attr {f : Str} {pos' : Pos} (h : ZE X e σ H fun y H1 => ZE X a σ H1 fun x H2 => ∃ p C dx fs, x = .ref p ∧ H2 p = some (.ins C dx fs) ∧ Cls X.K C ∧ NoAttr X.K C f ∧ fs.length < 1000 ∧ nx σ (upd H2 p (.ins C dx (putF f y fs))))
    (hs : swapsWith e (some (.Attribute a f pos')) pos.line X.env = pure false := by rfl) : ZS X (.Assign [.Attribute a f pos'] e pos) nx rt bk ct σ H := (ps_fld pe_we pe_we hs).w h
theorem zg_name (i : Nat) {x : Str} {v : V} {Q : St → Hp → Prop} (hN : X.N.Nodup) (hi : X.N[i]? = some x) (q : Q (σ.set i (some v)) H) (hx : Loc X.env.scope x := by first | exact Or.inl rfl | exact Or.inr rfl)
    (hf : X.fn x = true ∨ X.env.scope.names.lookup x = some .local := by first | exact .inl rfl | exact .inr rfl | assumption) : ZG X (.Name x pos) v σ H Q := (pg_name hN hi hx hf).w q
theorem zg_tup {k : Nat} {n : Nat} {v : V} {Q : St → Hp → Prop} (hc : X.calm = true) (h : ∃ p xs, v = .ref p ∧ SqT X.K H p xs ∧ xs.length = n ∧ ZGs X es xs σ H Q)
    (hn : (assignEach es X.env).length = n := by rfl) (hst : (assignEach es X.env).findIdx? (·.1) = none := by rfl) : ZG X (.Tuple es k pos) v σ H Q := (pg_tup hc pgs_wgs hn hst).w h
theorem zgs_nil {Q : St → Hp → Prop} (q : Q σ H) : ZGs X [] [] σ H Q := pgs_nil.w ⟨rfl, q⟩
theorem zgs_cons {v : V} {vs : List V} {Q : St → Hp → Prop} (h : ZG X e v σ H fun σ' H' => ZGs X es vs σ' H' Q) (hs : (assignEach (e :: es) X.env).map (·.2) = assign e X.env :: (assignEach es X.env).map (·.2) := by rfl) : ZGs X (e :: es) (v :: vs) σ H Q := (pgs_cons pg_wg pgs_wgs hs).w ⟨v, vs, rfl, h⟩
theorem zg_sub {v : V} {Q : St → Hp → Prop} (h : ZE X a σ H fun o H1 => ZE X b σ H1 fun i H2 => SetW X o i v H2 fun H3 => Q σ H3)
    (ha : ∀ v, assign (.Subscript a b pos) X.env v = (do
      let ov ← holding [v] (eval a X.env)
      let iv ← holding [v, ov] (eval b X.env)
      standAt pos
      holding [v, ov, iv] (setItem ov iv v)
      release [v, ov, iv] []) := by intro _; rfl) : ZG X (.Subscript a b pos) v σ H Q := (pg_sub pe_we pe_we set_w ha).w h
theorem zs_par (i j : Nat) {x y : Str} {px py pt : Pos} {kt k2 pt2} (hc : X.calm = true) (hN : X.N.Nodup) (hi : X.N[i]? = some x) (hj : X.N[j]? = some y) (hij : i ≠ j) (h : ZA X [a, b] σ H fun vs H1 => ∃ v w, vs = [v, w] ∧ nx ((σ.set i (some v)).set j (some w)) H1)
    (hx : X.env.scope.names.lookup x = some .local := by rfl) (hy : X.env.scope.names.lookup y = some .local := by rfl)
    (hw : swappedStores [.Tuple [.Name x px, .Name y py] kt pt] (.Tuple [a, b] k2 pt2) X.env = pure (some [x, y]) := by rfl)
    (hs : swapsWithSole [.Tuple [.Name x px, .Name y py] kt pt] (.Tuple [a, b] k2 pt2) pos.line X.env = pure false := by rfl) :
    ZS X (.Assign [.Tuple [.Name x px, .Name y py] kt pt] (.Tuple [a, b] k2 pt2) pos) nx rt bk ct σ H := (ps_par hc hN hi hj hij hx hy pa_wa hw hs).w h
theorem zs_aug (i : Nat) {x : Str} {v : V} {op : Operator} {pos' : Pos} (hN : X.N.Nodup) (hi : X.N[i]? = some x) (hv : σ[i]? = some (some v)) (h : ZE X e σ H fun y H1 => IpW X op v y H1 fun z H2 => nx (σ.set i (some z)) H2) (hx : Loc X.env.scope x := by first | exact Or.inl rfl | exact Or.inr rfl)
    (hf : X.fn x = true ∨ X.env.scope.names.lookup x = some .local := by first | exact .inl rfl | exact .inr rfl | assumption) : ZS X (.AugAssign (.Name x pos') op e pos) nx rt bk ct σ H := (ps_aug hN hi hx pe_we ip_w hf).w ⟨v, hv, h⟩
theorem zs_while (hp : PassesOwn (model X.prog X.w) X.A X.env X.xe) (h : ∃ W : Nat → St → Hp → Prop, (∃ m, W m σ H) ∧ ∀ m σ H, W m σ H →
  ZT X c σ H fun b H1 => if b = true then ∃ N : St → Hp → Prop, (∀ σ' H', N σ' H' → ∃ m', m' < m ∧ W m' σ' H') ∧ ZSs X sts N rt nx N σ H1 else nx σ H1) : ZS X (.While c sts [] pos) nx rt bk ct σ H := (ps_while hp pt_wt pss_wss).w h
theorem zs_for (hp : PassesOwn (model X.prog X.w) X.A X.env X.xe) (hc : X.calm = true) (h : ZI X a b σ H fun J H1 => ∃ W : Nat → Nat → St → Hp → Prop, (∃ m, W 0 m σ H1) ∧ ∀ i m σ H, W i m σ H →
  (J.stop i H ∧ nx σ H) ∨ (J.go i H ∧ ∃ N : St → Hp → Prop, (∀ σ' H', N σ' H' → ∃ m', m' < m ∧ W (i + 1) m' σ' H') ∧ ∀ x H', J.yld i H x H' → ZG X a x σ H' fun σ2 H2 => ZSs X sts N rt nx N σ2 H2))
    (hs : ∀ x, foldedSetIterable b X.env x = pure x := by intro _; rfl) : ZS X (.For a b sts [] pos) nx rt bk ct σ H := (ps_for hp hc pi_wi pg_wg pss_wss hs).w h
theorem zi_list {R : It → Hp → Prop} (h : ZE X b σ H fun x H1 => ∃ p, x = .ref p ∧ (∃ xs, SqL X.K H1 p xs) ∧ R (Itl X.K p) H1) : ZI X a b σ H R := (pi_list pe_we).w h
theorem zi_tup {R : It → Hp → Prop} (h : ZE X b σ H fun x H1 => ∃ p, x = .ref p ∧ (∃ xs, SqT X.K H1 p xs) ∧ R (Itt X.K p) H1) : ZI X a b σ H R := (pi_tup pe_we).w h
theorem zi_range1 {R : It → Hp → Prop} {p : Pos} (hm : X.mg "range" = none) (h : ZA X [e] σ H fun vs H1 => ∃ j : Int, vs = [.int j] ∧ -(2 ^ 62) ≤ j ∧ j < 2 ^ 62 ∧ R (Itr 0 j.toNat) H1) (hg : Gl X "range" := by rfl) (hs : starEach [e] X.env = [(false, eval e X.env)] := by rfl) : ZI X a (.Call (.Name "range" p) [e] [] pos) σ H R :=
  (pi_range1 hg hm pa_wa hs).w h
theorem zi_range2 {R : It → Hp → Prop} {p : Pos} (hm : X.mg "range" = none) (h : ZA X [e, b] σ H fun vs H1 => ∃ i j : Int, vs = [.int i, .int j] ∧ (-(2 ^ 62) ≤ i ∧ i < 2 ^ 62 ∧ -(2 ^ 62) ≤ j ∧ j < 2 ^ 62) ∧ R (Itr i (j - i).toNat) H1) (hg : Gl X "range" := by rfl) (hs : starEach [e, b] X.env = [(false, eval e X.env), (false, eval b X.env)] := by rfl) (hs2 : starEach [b] X.env = [(false, eval b X.env)] := by rfl) : ZI X a (.Call (.Name "range" p) [e, b] [] pos) σ H R :=
  (pi_range2 hg hm pa_wa hs hs2).w h

/-! ### raise, try -/
theorem zs_raise {c : Expr} {x : Str} {C fI : Addr} {nms : List Str} {j : Nat} {p pos2 : Pos} (hc : X.calm = true) (T : PySem.LX.ExcT X.K C) (iC : PySem.W.findIn X.K (.ref C) "__init__" = some (some (.ref fI))) (tC : PySem.W.typeIn X.K (.ref fI) = some (.type "function"))
    (IR : PySem.LX.InitRuns X.prog X.K X.mg C fI nms) (gC : X.mg x = some (.ref C)) (hr : Room j X.A)
    (h : ZA X (e :: es) σ H fun vs H1 => vs.length = nms.length ∧ nms.length ≤ 10 ∧ ∀ d, H1 d = none → XW X (.ref C) (some d) σ (upd H1 d (.xd (nms.zip vs).reverse))) (hg : Gl X x := by rfl)
    (hdb : (x == ("__debug__" : Str)) = false := by decide) (he : starEach (e :: es) X.env = (false, eval e X.env) :: starEach es X.env := by rfl) (hpl : (backTo pos (starEach es X.env)).any (·.1) = false := by rfl) :
    ZS X (.Raise (some (.Call (.Name x p) (e :: es) [] pos)) none pos2) nx rt bk ct σ H := (L2N.ps_raise hc takes_xw (pmk_x T iC tC IR gC hr pa_wa hg hdb he hpl)).w h
theorem zs_try_as {x n : Str} {k : Value} {i : Nat} {body suite : List Stmt} {b₀ : Stmt} {np pos' : Pos} (hs : X.stack = X.env :: X.outer) (hf : X.env.frame = some X.env.locals) (hN : X.N.Nodup) (hi : X.N[i]? = some n) (hln : X.env.kindOf n = some .local) (hc : Names X x k)
    (h : ∀ (pn : List (Addr × Obj)) (xe : Value → Shared → Prop), L2N.Takes (X.tr pn xe) (wAs X.K k i (fun a cls d D σ H => ∀ (oe : Obj) (pn : List (Addr × Obj)), L2N.Zn cls d oe → (∃ vs, oe.data = .fields vs) → ZSs (X.suite a ((a, oe) :: pn)) (b₀ :: suite) D.nx D.rt D.bk D.ct σ H) (XW X) ⟨nx, rt, bk, ct⟩) →
      PassesOwn (model X.prog X.w) X.A X.env xe → ZSs (X.tr pn xe) body nx rt bk ct σ H) :
    ZS X (.Try body [.ExceptHandler (some (.Name x np)) (some n) (b₀ :: suite) pos'] [] [] pos) nx rt bk ct σ H :=
  (L2N.ps_try_as (tb := fun W D σ H => ∀ (pn : List (Addr × Obj)) (xe : Value → Shared → Prop), L2N.Takes (X.tr pn xe) W → PassesOwn (model X.prog X.w) X.A X.env xe → ZSs (X.tr pn xe) body D.nx D.rt D.bk D.ct σ H) hs hf hN hi hln hc takes_xw
    (fun W pn xe tk hp => ⟨fun pins s σ H D I h => (h pn xe tk hp).run pins s I⟩) (fun a oe cls d pn hz hf => ⟨fun pins s σ H D I h => (h oe pn hz hf).run pins s I⟩)).w h
end

/-! ### the entry of a def -/
section
variable {P : Program} {w : World} {K : PySem.W.Frag} {mg : Str → Option Value} {base : Heap}
/-- the context of a def's body -/
abbrev cxN (P : Program) (w : World) (K : PySem.W.Frag) (mg : Str → Option Value) (base : Heap) (N : List Str) (qual : Str) (scope : Scope) (f : Addr) (cd : Value) (A : Around) (outer : List Env) (s : Shared) (H : Hp) (E : XK) : Cx := cxOf (L2N.CX P w) P w K mg base N qual scope f cd A outer s H E
theorem Fun.okN {x qual : Str} {st : Stmt} {f : Addr} {fd : FuncData} {N ps : List Str} {k : Nat} {sp : Sp} (F : Fun K x qual st f fd) (S : FnScope N ps (defScope st)) (len : ∀ vs H Q E, sp vs H Q E → vs.length = ps.length)
    (hbody : ∀ (cdv : Value) (A : Around) (outer : List Env) (s : Shared) (H : Hp) (vs : List V) (Q : VK) (E : XK), Room k (A.deeper (envOfC qual (defScope st) s.heap.objs.size f cdv)) → sp vs H Q E →
      ZSs (cxN P w K mg base N qual (defScope st) f cdv A outer s H E) (defBody st) (fun _ H' => Q .non H') Q (fun _ _ => False) (fun _ _ => False) (start N vs) H) : FnOk P w K mg base (L2N.CX P w) (k + 1) f fd ps sp := by
  obtain ⟨oc, od, kV, doc, pm, an, cdv, ct, osl, rfl, lk, hcd⟩ := F.ex
  exact fn_of lk hcd S len fun A outer s H vs Q E hr hsp => ⟨_, pss_wss, hbody cdv A outer s H vs Q E hr hsp⟩
theorem FunD.okN {x qual : Str} {params : Arguments} {body : List Stmt} {scope : Scope} {dvs : List V} {kws : List (Str × V)} {f : Addr} {fd : FuncData} {N ps : List Str} {k : Nat} {sp : Sp} (F : FunD K x qual params body scope dvs kws f fd) (S : FnScope N ps scope) (len : ∀ vs H Q E, sp vs H Q E → vs.length = ps.length)
    (hbody : ∀ (cdv : Value) (A : Around) (outer : List Env) (s : Shared) (H : Hp) (vs : List V) (Q : VK) (E : XK), Room k (A.deeper (envOfC qual scope s.heap.objs.size f cdv)) → sp vs H Q E →
      ZSs (cxN P w K mg base N qual scope f cdv A outer s H E) body (fun _ H' => Q .non H') Q (fun _ _ => False) (fun _ _ => False) (start N vs) H) : FnOk P w K mg base (L2N.CX P w) (k + 1) f fd ps sp :=
  F.ok S len fun cdv A outer s H vs Q E hr hsp => ⟨_, pss_wss, hbody cdv A outer s H vs Q E hr hsp⟩
/-- at the level of a def an exception leaves it -/
theorem xw_def {N : List Str} {qual : Str} {scope : Scope} {f : Addr} {cd : Value} {A : Around} {outer : List Env} {s : Shared} {H0 : Hp} {E : XK} {cls : Value} {d : Option Addr} {σ : St} {H : Hp} (h : E cls d H) : XW (cxN P w K mg base N qual scope f cd A outer s H0 E) cls d σ H :=
  xw_of (L2N.takes_of rfl rfl rfl rfl) h
theorem pass_def {N : List Str} {qual : Str} {scope : Scope} {f : Addr} {cd : Value} {A : Around} {outer : List Env} {s : Shared} {H0 : Hp} {E : XK} : PassesOwn (model P w) (cxN P w K mg base N qual scope f cd A outer s H0 E).A (cxN P w K mg base N qual scope f cd A outer s H0 E).env (cxN P w K mg base N qual scope f cd A outer s H0 E).xe := passes_of rfl
end
end L2

/-! The values' rules. -/
namespace L2
open PySem PySem.Spec PyProof.Rows
section
variable {X : Cx} {H : Hp} {Q : VK} {i j : Int} {x y : V} {p q : Addr} {xs ys : List V} {z w : Str}
theorem ow_add (h : Q (.int (i + j)) H) : OpW X (binaryOp .Add) (.int i) (.int j) H Q := op_add.w ⟨i, j, rfl, rfl, h⟩
theorem ow_sub (h : Q (.int (i - j)) H) : OpW X (binaryOp .Sub) (.int i) (.int j) H Q := op_sub.w ⟨i, j, rfl, rfl, h⟩
theorem ow_mul (hc : CMul i j) (h : Q (.int (i * j)) H) : OpW X (binaryOp .Mult) (.int i) (.int j) H Q := op_mul.w ⟨i, j, rfl, rfl, hc, h⟩
theorem ow_mulW (hc : CMulW i j) (h : Q (.int (i * j)) H) : OpW X (binaryOp .Mult) (.int i) (.int j) H Q := op_mulW.w ⟨i, j, rfl, rfl, hc, h⟩
theorem ow_mod (hc : 0 < j) (h : Q (.int (i % j)) H) : OpW X (binaryOp .Mod) (.int i) (.int j) H Q := op_mod.w ⟨i, j, rfl, rfl, hc, h⟩
theorem ow_fdiv (hc : CDiv i j) (h : Q (.int (i / j)) H) : OpW X (binaryOp .FloorDiv) (.int i) (.int j) H Q := op_fdiv.w ⟨i, j, rfl, rfl, hc, h⟩
theorem ow_fdivW (hc : CDivW i j) (h : Q (.int (i / j)) H) : OpW X (binaryOp .FloorDiv) (.int i) (.int j) H Q := op_fdivW.w ⟨i, j, rfl, rfl, hc, h⟩
theorem ow_pow (hc : CPow i j) (h : Q (.int (i ^ j.toNat)) H) : OpW X (binaryOp .Pow) (.int i) (.int j) H Q := op_pow.w ⟨i, j, rfl, rfl, hc, h⟩
theorem ow_adds (hc : z.length + w.length ≤ sizeLine) (h : Q (.str (z ++ w)) H) : OpW X (binaryOp .Add) (.str z) (.str w) H Q := op_add_str.w ⟨z, w, rfl, rfl, hc, h⟩
theorem ow_addl (h1 : H p = some (.lst xs)) (h2 : H q = some (.lst ys)) (hc : xs.length + ys.length ≤ sizeLine) (h : ∀ r, H r = none → Q (.ref r) (upd H r (.lst (xs ++ ys)))) : OpW X (binaryOp .Add) (.ref p) (.ref q) H Q := op_cat.w ⟨p, q, xs, ys, rfl, rfl, h1, h2, hc, h⟩
theorem ow_repl (h1 : H p = some (.lst xs)) (hc : -(2 ^ 63) ≤ i ∧ i < 2 ^ 63 ∧ xs.length * i.toNat ≤ sizeLine) (h : ∀ r, H r = none → Q (.ref r) (upd H r (.lst (List.replicate i.toNat xs).flatten))) : OpW X (binaryOp .Mult) (.ref p) (.int i) H Q := op_rep.w ⟨p, i, xs, rfl, rfl, h1, hc.1, hc.2.1, hc.2.2, h⟩
theorem ow_lt (h : Q (.bl (decide (i < j))) H) : OpW X (compareOp .Lt) (.int i) (.int j) H Q := op_lt.w ⟨i, j, rfl, rfl, h⟩
theorem ow_le (h : Q (.bl (decide (i ≤ j))) H) : OpW X (compareOp .LtE) (.int i) (.int j) H Q := op_le.w ⟨i, j, rfl, rfl, h⟩
theorem ow_gt (h : Q (.bl (decide (j < i))) H) : OpW X (compareOp .Gt) (.int i) (.int j) H Q := op_gt.w ⟨i, j, rfl, rfl, h⟩
theorem ow_ge (h : Q (.bl (decide (j ≤ i))) H) : OpW X (compareOp .GtE) (.int i) (.int j) H Q := op_ge.w ⟨i, j, rfl, rfl, h⟩
theorem ow_eqi (h : Q (.bl (decide (i = j))) H) : OpW X (compareOp .Eq) (.int i) (.int j) H Q := op_eq.w ⟨rfl, by
  have e : decide (V.int i = V.int j) = decide (i = j) := by simp
  rw [e]; exact h⟩
theorem ow_nei (h : Q (.bl (!decide (i = j))) H) : OpW X (compareOp .NotEq) (.int i) (.int j) H Q := op_ne.w ⟨rfl, by
  have e : decide (V.int i = V.int j) = decide (i = j) := by simp
  rw [e]; exact h⟩
theorem ow_eqs (h : Q (.bl (decide (z = w))) H) : OpW X (compareOp .Eq) (.str z) (.str w) H Q := op_eq.w ⟨rfl, by
  have e : decide (V.str z = V.str w) = decide (z = w) := by simp
  rw [e]; exact h⟩
theorem ow_nes (h : Q (.bl (!decide (z = w))) H) : OpW X (compareOp .NotEq) (.str z) (.str w) H Q := op_ne.w ⟨rfl, by
  have e : decide (V.str z = V.str w) = decide (z = w) := by simp
  rw [e]; exact h⟩
theorem ow_eqb {a b : Bool} (h : Q (.bl (decide (a = b))) H) : OpW X (compareOp .Eq) (.bl a) (.bl b) H Q := op_eq.w ⟨rfl, by
  have e : decide (V.bl a = V.bl b) = decide (a = b) := by simp
  rw [e]; exact h⟩
theorem ow_neb {a b : Bool} (h : Q (.bl (!decide (a = b))) H) : OpW X (compareOp .NotEq) (.bl a) (.bl b) H Q := op_ne.w ⟨rfl, by
  have e : decide (V.bl a = V.bl b) = decide (a = b) := by simp
  rw [e]; exact h⟩
theorem ow_isN (h : Q (.bl (decide (x = .non))) H) : OpW X (compareOp .Is) x .non H Q := op_isN.w ⟨rfl, h⟩
theorem ow_notN (h : Q (.bl (!decide (x = .non))) H) : OpW X (compareOp .IsNot) x .non H Q := op_notN.w ⟨rfl, h⟩
theorem ow_in (hs : SqL X.K H p xs ∨ SqT X.K H p xs) (hx : flatV x = true) (ha : xs.all flatV = true) (h : Q (.bl (inV x xs)) H) : OpW X (compareOp .In) x (.ref p) H Q := op_in_seq.w ⟨p, xs, rfl, hs, hx, ha, h⟩
theorem ow_notin (hs : SqL X.K H p xs ∨ SqT X.K H p xs) (hx : flatV x = true) (ha : xs.all flatV = true) (h : Q (.bl (!inV x xs)) H) : OpW X (compareOp .NotIn) x (.ref p) H Q := op_notIn_seq.w ⟨p, xs, rfl, hs, hx, ha, h⟩
theorem uw_neg (h : Q (.int (-i)) H) : UnW X (unaryOp .USub) (.int i) H Q := un_neg.w ⟨i, rfl, h⟩
theorem cw_lenq (hs : SqL X.K H p xs ∨ SqT X.K H p xs) (h : Q (.int xs.length) H) : CallW X (.builtin "len") [.ref p] H Q := call_len_seq.w ⟨p, xs, rfl, hs, h⟩
theorem cw_lens (hs : z.length ≤ sizeLine) (h : Q (.int z.length) H) : CallW X (.builtin "len") [.str z] H Q := call_len_str.w ⟨z, rfl, hs, h⟩
theorem cw_abs (h : Q (.int (if i < 0 then -i else i)) H) : CallW X (.builtin "abs") [.int i] H Q := call_abs.w ⟨i, rfl, h⟩
theorem cw_int (h : Q (.int i) H) : CallW X (.type "int") [.int i] H Q := call_int1.w (.inl ⟨i, rfl, h⟩)
theorem cw_intb {b : Bool} (h : Q (.int (if b then 1 else 0)) H) : CallW X (.type "int") [.bl b] H Q := call_int1.w (.inr ⟨b, rfl, h⟩)
theorem cw_booli (h : Q (.bl (i != 0)) H) : CallW X (.type "bool") [.int i] H Q := call_bool1.w (.inl ⟨i, rfl, h⟩)
theorem cw_boolb {b : Bool} (h : Q (.bl b) H) : CallW X (.type "bool") [.bl b] H Q := call_bool1.w (.inr ⟨b, rfl, h⟩)
theorem cw_isi {c : V} {t u : Value} {b : Bool} (hc : ClsV c u) (hx : TyX X.K H x t) (hk : PySem.W.kitOne X.K t u = some b) (h : Q (.bl b) H) : CallW X (.builtin "isinstance") [x, c] H Q := call_isi.w ⟨x, c, t, u, b, rfl, hc, hx, hk, h⟩
theorem cw_tuple (hs : SqL X.K H p xs) (h : ∀ r, H r = none → Q (.ref r) (upd H r (.tup xs))) : CallW X (.type "tuple") [.ref p] H Q := call_tuple_of.w ⟨p, xs, rfl, .inl ⟨hs, h⟩⟩
theorem cw_list (hs : SqL X.K H p xs ∨ SqT X.K H p xs) (h : ∀ r, H r = none → Q (.ref r) (upd H r (.lst xs))) : CallW X (.type "list") [.ref p] H Q := call_list_of.w ⟨p, xs, rfl, hs, h⟩
theorem cw_max2 (hc : X.calm = true) (h : Q (.int (if j > i then j else i)) H) : CallW X (.builtin "max") [.int i, .int j] H Q := (call_max2 hc).w ⟨i, j, rfl, h⟩
theorem cw_min2 (hc : X.calm = true) (h : Q (.int (if j < i then j else i)) H) : CallW X (.builtin "min") [.int i, .int j] H Q := (call_min2 hc).w ⟨i, j, rfl, h⟩
theorem cw_divmod (hc : CDiv i j) (h : ∀ r, H r = none → Q (.ref r) (upd H r (.tup [.int (i / j), .int (i % j)]))) : CallW X (.builtin "divmod") [.int i, .int j] H Q := call_divmod.w ⟨i, j, rfl, hc, h⟩
theorem xw_lst {v : V} (hs : SqL X.K H p xs) (hi : atI xs i = some v) (h : Q v H) : IxW X (.ref p) (.int i) H Q := ix_list.w ⟨p, xs, i, v, rfl, rfl, hs, hi, h⟩
theorem xw_tup {v : V} (hs : SqT X.K H p xs) (hi : atI xs i = some v) (h : Q v H) : IxW X (.ref p) (.int i) H Q := ix_tup.w ⟨p, xs, i, v, rfl, rfl, hs, hi, h⟩
theorem xw_str {c : Nat} (hz : z.length ≤ sizeLine) (hi : atI z.cps.toList i = some c) (h : Q (.str ⟨#[c]⟩) H) : IxW X (.str z) (.int i) H Q := ix_str.w ⟨z, i, c, rfl, rfl, hz, hi, h⟩
theorem sw_lst {v : V} {n : Nat} {Q : Hp → Prop} (hs : H p = some (.lst xs)) (hi : ixN xs.length i = some n) (h : Q (upd H p (.lst (xs.set n v)))) : SetW X (.ref p) (.int i) v H Q := set_list.w ⟨p, xs, i, n, rfl, rfl, hs, hi, h⟩
theorem mw_append (hs : H p = some (.lst xs)) (hz : xs.length < sizeLine) (h : Q .non (upd H p (.lst (xs ++ [y])))) : MtW X "list.append" (.ref p) [y] H Q := (show MtR X "list.append" rAppend from mt_append).w ⟨p, xs, y, rfl, rfl, hs, hz, h⟩
theorem aw_fld {C dx : Addr} {fs : List (Str × V)} {f : Str} {v : V} (e : H p = some (.ins C dx fs)) (c : Cls X.K C) (n : NoAttr X.K C f) (l : fs.lookup f = some v) (h : Q v H) : AtW X f (.ref p) H Q := ⟨fun pins s σ u I ru => by
  obtain rfl : u = Value.ref p := ru
  exact getattr_ok I e c n l fun u' s2 I2 ru => ⟨v, H, I2, ru, h⟩⟩
theorem aw_con {C dx : Addr} {fs : List (Str × V)} {f : Str} {v : V} {u0 : Value} (e : H p = some (.ins C dx fs)) (c : Cls X.K C) (k : Con X.K C f v u0) (l : fs.lookup f = none) (h : Q v H) : AtW X f (.ref p) H Q := ⟨fun pins s σ u I ru => by
  obtain rfl : u = Value.ref p := ru
  exact getcon_ok I e c k l fun s2 I2 => ⟨v, H, I2, k.rel, h⟩⟩
theorem iw_add (h : Q (.int (i + j)) H) : IpW X .Add (.int i) (.int j) H Q := ip_add.w ⟨i, j, rfl, rfl, h⟩
theorem iw_sub (h : Q (.int (i - j)) H) : IpW X .Sub (.int i) (.int j) H Q := ip_sub.w ⟨i, j, rfl, rfl, h⟩
theorem slw_lst {lo hi : Option Int} (hs : SqL X.K H p xs) (h : ∀ r, H r = none → Q (.ref r) (upd H r (.lst (cutV xs lo hi)))) : SlW X (.ref p) lo hi H Q := sl_list.w ⟨p, xs, rfl, hs, h⟩
theorem slw_str {lo hi : Option Int} (hz : z.length ≤ sizeLine) (h : Q (.str (cutS z lo hi)) H) : SlW X (.str z) lo hi H Q := sl_str.w ⟨z, rfl, hz, h⟩
end
/-- the built-in names that the text leaves as they are -/
structure Blt (mg : Str → Option Value) : Prop where
  len : mg "len" = none
  int : mg "int" = none
  abs : mg "abs" = none
  isi : mg "isinstance" = none
  range : mg "range" = none
  boo : mg "bool" = none
  str : mg "str" = none
  lst : mg "list" = none
  tup : mg "tuple" = none
  max : mg "max" = none
  min : mg "min" = none
  zip : mg "zip" = none
  srt : mg "sorted" = none
  rev : mg "reversed" = none
  dm : mg "divmod" = none
  enu : mg "enumerate" = none
  sum : mg "sum" = none
  ve : mg "ValueError" = none
section
variable {X : Cx} {e b : Expr} {es : List Expr} {σ : St} {H : Hp} {Q : VK} {p pos : Pos}
theorem zc_len (B : Blt X.mg) (h : ZA X (e :: es) σ H fun vs H1 => CallW X (.builtin "len") vs H1 Q) (hg : Gl X "len" := by rfl) (he : starEach (e :: es) X.env = (false, eval e X.env) :: starEach es X.env := by rfl) (hpl : (backTo pos (starEach es X.env)).any (·.1) = false := by rfl) : ZE X (.Call (.Name "len" p) (e :: es) [] pos) σ H Q := ze_callB B.len boot_len h hg (by decide) (by decide) he hpl
theorem zc_abs (B : Blt X.mg) (h : ZA X (e :: es) σ H fun vs H1 => CallW X (.builtin "abs") vs H1 Q) (hg : Gl X "abs" := by rfl) (he : starEach (e :: es) X.env = (false, eval e X.env) :: starEach es X.env := by rfl) (hpl : (backTo pos (starEach es X.env)).any (·.1) = false := by rfl) : ZE X (.Call (.Name "abs" p) (e :: es) [] pos) σ H Q := ze_callB B.abs (by decide +kernel) h hg (by decide) (by decide) he hpl
theorem zc_isi (B : Blt X.mg) (h : ZA X (e :: es) σ H fun vs H1 => CallW X (.builtin "isinstance") vs H1 Q) (hg : Gl X "isinstance" := by rfl) (he : starEach (e :: es) X.env = (false, eval e X.env) :: starEach es X.env := by rfl) (hpl : (backTo pos (starEach es X.env)).any (·.1) = false := by rfl) : ZE X (.Call (.Name "isinstance" p) (e :: es) [] pos) σ H Q := ze_callB B.isi (by decide +kernel) h hg (by decide) (by decide) he hpl
theorem zc_max (B : Blt X.mg) (h : ZA X (e :: es) σ H fun vs H1 => CallW X (.builtin "max") vs H1 Q) (hg : Gl X "max" := by rfl) (he : starEach (e :: es) X.env = (false, eval e X.env) :: starEach es X.env := by rfl) (hpl : (backTo pos (starEach es X.env)).any (·.1) = false := by rfl) : ZE X (.Call (.Name "max" p) (e :: es) [] pos) σ H Q := ze_callB B.max (by decide +kernel) h hg (by decide) (by decide) he hpl
theorem zc_min (B : Blt X.mg) (h : ZA X (e :: es) σ H fun vs H1 => CallW X (.builtin "min") vs H1 Q) (hg : Gl X "min" := by rfl) (he : starEach (e :: es) X.env = (false, eval e X.env) :: starEach es X.env := by rfl) (hpl : (backTo pos (starEach es X.env)).any (·.1) = false := by rfl) : ZE X (.Call (.Name "min" p) (e :: es) [] pos) σ H Q := ze_callB B.min (by decide +kernel) h hg (by decide) (by decide) he hpl
theorem zc_dm (B : Blt X.mg) (h : ZA X (e :: es) σ H fun vs H1 => CallW X (.builtin "divmod") vs H1 Q) (hg : Gl X "divmod" := by rfl) (he : starEach (e :: es) X.env = (false, eval e X.env) :: starEach es X.env := by rfl) (hpl : (backTo pos (starEach es X.env)).any (·.1) = false := by rfl) : ZE X (.Call (.Name "divmod" p) (e :: es) [] pos) σ H Q := ze_callB B.dm (by decide +kernel) h hg (by decide) (by decide) he hpl
theorem zc_int (B : Blt X.mg) (h : ZA X (e :: es) σ H fun vs H1 => CallW X (.type "int") vs H1 Q) (hg : Gl X "int" := by rfl) (he : starEach (e :: es) X.env = (false, eval e X.env) :: starEach es X.env := by rfl) (hpl : (backTo pos (starEach es X.env)).any (·.1) = false := by rfl) : ZE X (.Call (.Name "int" p) (e :: es) [] pos) σ H Q := ze_callT B.int (by decide +kernel) h hg (by decide) (by decide) he hpl
theorem zc_boo (B : Blt X.mg) (h : ZA X (e :: es) σ H fun vs H1 => CallW X (.type "bool") vs H1 Q) (hg : Gl X "bool" := by rfl) (he : starEach (e :: es) X.env = (false, eval e X.env) :: starEach es X.env := by rfl) (hpl : (backTo pos (starEach es X.env)).any (·.1) = false := by rfl) : ZE X (.Call (.Name "bool" p) (e :: es) [] pos) σ H Q := ze_callT B.boo (by decide +kernel) h hg (by decide) (by decide) he hpl
theorem zc_tup (B : Blt X.mg) (h : ZA X (e :: es) σ H fun vs H1 => CallW X (.type "tuple") vs H1 Q) (hg : Gl X "tuple" := by rfl) (he : starEach (e :: es) X.env = (false, eval e X.env) :: starEach es X.env := by rfl) (hpl : (backTo pos (starEach es X.env)).any (·.1) = false := by rfl) : ZE X (.Call (.Name "tuple" p) (e :: es) [] pos) σ H Q := ze_callT B.tup (by decide +kernel) h hg (by decide) (by decide) he hpl
theorem zc_lst (B : Blt X.mg) (h : ZA X (e :: es) σ H fun vs H1 => CallW X (.type "list") vs H1 Q) (hg : Gl X "list" := by rfl) (he : starEach (e :: es) X.env = (false, eval e X.env) :: starEach es X.env := by rfl) (hpl : (backTo pos (starEach es X.env)).any (·.1) = false := by rfl) : ZE X (.Call (.Name "list" p) (e :: es) [] pos) σ H Q := ze_callT B.lst (by decide +kernel) h hg (by decide) (by decide) he hpl
theorem zc_str (B : Blt X.mg) (h : ZA X (e :: es) σ H fun vs H1 => CallW X (.type "str") vs H1 Q) (hg : Gl X "str" := by rfl) (he : starEach (e :: es) X.env = (false, eval e X.env) :: starEach es X.env := by rfl) (hpl : (backTo pos (starEach es X.env)).any (·.1) = false := by rfl) : ZE X (.Call (.Name "str" p) (e :: es) [] pos) σ H Q := ze_callT B.str (by decide +kernel) h hg (by decide) (by decide) he hpl
/-- a built-in class as a value -/
theorem zn_int (B : Blt X.mg) (h : Q (.ty "int") H) (hg : Gl X "int" := by rfl) : ZE X (.Name "int" pos) σ H Q := ze_bltn B.int (v := .ty "int") (u := .type "int") (by decide +kernel) rfl h hg (by decide) (by decide)
theorem zn_boo (B : Blt X.mg) (h : Q (.ty "bool") H) (hg : Gl X "bool" := by rfl) : ZE X (.Name "bool" pos) σ H Q := ze_bltn B.boo (v := .ty "bool") (u := .type "bool") (by decide +kernel) rfl h hg (by decide) (by decide)
theorem zn_str (B : Blt X.mg) (h : Q (.ty "str") H) (hg : Gl X "str" := by rfl) : ZE X (.Name "str" pos) σ H Q := ze_bltn B.str (v := .ty "str") (u := .type "str") (by decide +kernel) rfl h hg (by decide) (by decide)
theorem zn_lst (B : Blt X.mg) (h : Q (.ty "list") H) (hg : Gl X "list" := by rfl) : ZE X (.Name "list" pos) σ H Q := ze_bltn B.lst (v := .ty "list") (u := .type "list") (by decide +kernel) rfl h hg (by decide) (by decide)
theorem zn_tup (B : Blt X.mg) (h : Q (.ty "tuple") H) (hg : Gl X "tuple" := by rfl) : ZE X (.Name "tuple" pos) σ H Q := ze_bltn B.tup (v := .ty "tuple") (u := .type "tuple") (by decide +kernel) rfl h hg (by decide) (by decide)
theorem zn_ve (B : Blt X.mg) (h : Q (.ty "ValueError") H) (hg : Gl X "ValueError" := by rfl) : ZE X (.Name "ValueError" pos) σ H Q := ze_bltn B.ve (v := .ty "ValueError") (u := .type "ValueError") (by decide +kernel) rfl h hg (by decide) (by decide)
end
end L2
namespace L2
theorem zite_d {c A B : Prop} [Decidable c] (h1 : c → A) (h2 : ¬ c → B) : if decide c = true then A else B := by
  by_cases h : c
  · rw [if_pos (decide_eq_true h)]; exact h1 h
  · rw [if_neg (by simp [h])]; exact h2 h
theorem zite_n {c A B : Prop} [Decidable c] (h1 : ¬ c → A) (h2 : c → B) : if (!decide c) = true then A else B := by
  by_cases h : c
  · rw [if_neg (by simp [h])]; exact h2 h
  · rw [if_pos (by simp [h])]; exact h1 h
theorem zite_b {b : Bool} {A B : Prop} (h1 : b = true → A) (h2 : b = false → B) : if b = true then A else B := by
  cases b
  · exact h2 rfl
  · exact h1 rfl
theorem zite_nb {b : Bool} {A B : Prop} (h1 : b = false → A) (h2 : b = true → B) : if (!b) = true then A else B := by
  cases b
  · exact h1 rfl
  · exact h2 rfl
end L2
namespace L2
open PySem PySem.Spec PyProof.Rows
theorem atI_lt {α : Type} {xs : List α} {i : Int} (h0 : 0 ≤ i) (h1 : i < xs.length) : ∃ v, xs[i.toNat]? = some v ∧ atI xs i = some v := by
  have h2 : i.toNat < xs.length := by omega
  refine ⟨xs[i.toNat], List.getElem?_eq_getElem h2, ?_⟩
  have := atI_nat (j := i.toNat) (List.getElem?_eq_getElem h2)
  rwa [Int.toNat_of_nonneg h0] at this
theorem map_get {α β : Type} {f : α → β} {xs : List α} {n : Nat} {v : β} (h : (xs.map f)[n]? = some v) : ∃ x, xs[n]? = some x ∧ v = f x := by
  rw [List.getElem?_map] at h
  cases e : xs[n]? with
  | none => rw [e] at h; cases h
  | some x => rw [e] at h; exact ⟨x, rfl, (Option.some.inj h).symm⟩
/-- the law's source: its object, by its places (the script's list at q) -/
def SrcO (p q : Addr) : HO := .ext fun h => ∃ (i x1 x2 x3 : Int) (t0 t1 t2 t3 : Tok) (n : Nat), 0 ≤ i ∧ h.get? p = some { cls := .type "list", data := .seq #[.int i t0, .int x1 t1, .int x2 t2, .int x3 t3, .ref q] n }
def Src (H : Hp) (p : Addr) : Prop := ∃ (q : Addr) (ns : List Int), H p = some (SrcO p q) ∧ H q = some (.lst (ns.map V.int)) ∧ ns.length ≤ 1000
def srcL (i x1 x2 x3 : Int) (q : Addr) : HO := .lst [.int i, .int x1, .int x2, .int x3, .ref q]
def spDraw1 : Sp := fun vs H Q _ => ∃ (p q : Addr) (many i x1 x2 x3 : Int) (ns : List Int), vs = [.ref p, .int many] ∧ 0 < many ∧ many < 1073741824 ∧ H p = some (srcL i x1 x2 x3 q) ∧ 0 ≤ i ∧ H q = some (.lst (ns.map V.int)) ∧ ns.length ≤ 1000 ∧
  ∀ v i' x1' x2' x3', 0 ≤ v → v < many → 0 ≤ i' → Q (.int v) (upd H p (srcL i' x1' x2' x3' q))
def spDraw : Sp := fun vs H Q _ => ∃ (p : Addr) (many : Int), vs = [.ref p, .int many] ∧ 0 < many ∧ many < 1073741824 ∧ Src H p ∧ ∀ v, 0 ≤ v → v < many → Q (.int v) H
def spSrc1 (K : PySem.W.Frag) : Sp := fun vs H Q _ => ∃ (a : Addr) (ns : List Int), vs = [.ref a] ∧ SqL K H a (ns.map V.int) ∧ ns.length ≤ 1000 ∧ ∀ p q H', H p = none → H q = none → Same H H' → p ≠ q → H' p = some (srcL 0 0 0 0 q) → H' q = some (.lst (ns.map V.int)) → Q (.ref p) H'
def spSrc (K : PySem.W.Frag) : Sp := fun vs H Q _ => ∃ (a : Addr) (ns : List Int), vs = [.ref a] ∧ SqL K H a (ns.map V.int) ∧ ns.length ≤ 1000 ∧ ∀ p H', H p = none → Same H H' → Src H' p → Q (.ref p) H'
theorem ext_ne_tup {φ : Heap → Prop} {xs : List V} : HO.ext φ ≠ .tup xs := fun z => by cases z
theorem ext_ne_own {φ : Heap → Prop} {x : Addr} : HO.ext φ ≠ .own x := fun z => by cases z
theorem ext_ne_frz {φ : Heap → Prop} {o : Obj} {u : HO} : HO.ext φ ≠ .frz o u := fun z => by cases z
theorem ext_ne_tbl {φ : Heap → Prop} {ps : Array Value} : HO.ext φ ≠ .tbl ps := fun z => by cases z
theorem upd_none {H : Hp} {p b : Addr} {o u : HO} (hp : H p = some o) : upd H p u b = none ↔ H b = none := by
  by_cases e : b = p
  · subst e
    rw [upd_same, hp]
    simp
  · rw [upd_ne e]
section
variable {P : Program} {w : World} {K : PySem.W.Frag} {mg : Str → Option Value} {base : Heap} {CX : CXT} {k : Nat} {f : Addr} {fd : FuncData} {ps : List Str}
/-- an object's content is read in another way: the rest of the heap is told as before -/
theorem ObjOk.reread {H : Hp} {h : Heap} {p a : Addr} {o u v : HO} (hp : H p = some u) (n1 : ∀ x, u ≠ .own x) (n2 : ∀ xs, u ≠ .tup xs) (x : ObjOk P w H h a o) : ObjOk P w (upd H p v) h a o :=
  x.stay (fun _ _ _ z => z) (fun b hb => by rw [upd_ne (fun e => n1 _ (by rw [e, hp] at hb; exact Option.some.inj hb))]; exact hb) (fun b xs hb => by rw [upd_ne (fun e => n2 _ (by rw [e, hp] at hb; exact Option.some.inj hb))]; exact hb)
theorem Un.reread {fs : List Addr} {H : Hp} {h h' : Heap} {p : Addr} {u v v' : HO} (hp : H p = some u) (n2 : ∀ xs, u ≠ .tup xs) (n3 : ∀ o x, u ≠ .frz o x) (n4 : ∀ ps, u ≠ .tbl ps) (x : Un fs [] (upd H p v) (upd H p v') h h') : Un fs [] H H h h' where
  keep := fun b o e n => x.keep b o e ((upd_none hp).mpr n)
  slot := fun b o e n => x.slot b o e ((upd_none hp).mpr n)
  free := fun b o e n _ => n
  there := x.there
  tups := fun b xs e => e
  frzs := fun b o u e => e
  tbls := fun b ps e => ⟨#[], by rw [Array.append_empty]; exact e⟩
theorem draw_hide (F : FnOk P w K mg base CX k f fd ps spDraw1) (hCX : ∀ outer H s E e s', (∀ c d H', ¬ E c d H') → ¬ CX outer H s E e s') : FnOk P w K mg base CX k f fd ps spDraw := by
  refine ⟨fun vs H Q E h => ?_, fun A outer s H args us vs Q E hr e0 hb r h => ?_⟩
  · obtain ⟨p, many, rfl, h1, h2, ⟨q, ns, hp, hq, hl⟩, _⟩ := h
    have z : spDraw1 [.ref p, .int many] (upd (upd (fun _ => none) p (srcL 0 0 0 0 (p + 1))) (p + 1) (.lst (([] : List Int).map V.int))) (fun _ _ => True) E :=
      ⟨p, p + 1, many, 0, 0, 0, 0, [], rfl, h1, h2, by rw [upd_ne (Nat.ne_of_lt (Nat.lt_succ_self p)), upd_same], Int.le_refl _, upd_same, by simp, fun _ _ _ _ _ _ _ _ => trivial⟩
    exact F.len _ _ _ _ z
  · obtain ⟨p, many, rfl, h1, h2, ⟨q, ns, hp, hq, hl⟩, hQ⟩ := h
    obtain ⟨⟨i, x1, x2, x3, t0, t1, t2, t3, n, hi, hg⟩, -, -⟩ := (show ObjOk P w H s.heap p (SrcO p q) from e0.hok p _ hp)
    have n1 : ∀ x, SrcO p q ≠ .own x := fun x => ext_ne_own
    have n2 : ∀ xs, SrcO p q ≠ .tup xs := fun x => ext_ne_tup
    have n3 : ∀ o x, SrcO p q ≠ .frz o x := fun o x => ext_ne_frz
    have n4 : ∀ ps, SrcO p q ≠ .tbl ps := fun x => ext_ne_tbl
    have npq : q ≠ p := fun e => by
      rw [e, hp] at hq
      have z := Option.some.inj hq
      unfold SrcO at z
      cases z
    have e1 : Env0 P w K mg base A outer s (upd H p (srcL i x1 x2 x3 q)) := {
      frames := e0.frames
      mod := e0.mod
      bs := fun b o e => ⟨(e0.bs b o e).1, (upd_none hp).mpr (e0.bs b o e).2⟩
      bsz := e0.bsz
      funs := e0.funs
      frf := fun b hb => (upd_none hp).mpr (e0.frf b hb)
      hok := fun a o e => by
        by_cases ea : a = p
        · subst ea
          rw [upd_same] at e
          cases e
          exact ⟨(by show 5 ≤ sizeLine; decide), [.int i t0, .int x1 t1, .int x2 t2, .int x3 t3, .ref q], n, .cons ⟨_, rfl⟩ (.cons ⟨_, rfl⟩ (.cons ⟨_, rfl⟩ (.cons ⟨_, rfl⟩ (.cons rfl .nil)))), hg⟩
        · rw [upd_ne ea] at e
          exact (e0.hok a o e).reread hp n1 n2
      bare := e0.bare }
    refine codeAny_mono (F.run A outer s _ args us _ (fun v H' => ∃ z i' x1' x2' x3', v = .int z ∧ 0 ≤ z ∧ z < many ∧ 0 ≤ i' ∧ H' = upd H p (srcL i' x1' x2' x3' q)) (fun _ _ _ => False) hr e1 hb r
      ⟨p, q, many, i, x1, x2, x3, ns, rfl, h1, h2, upd_same, hi, by rw [upd_ne npq]; exact hq, hl, fun v i' x1' x2' x3' a b c => ⟨v, i', x1', x2', x3', rfl, a, b, c, upd_upd⟩⟩) fun r s' hq' => ?_
    cases r with
    | error e => exact absurd hq' (hCX _ _ _ _ _ _ fun _ _ _ z => z)
    | ok fl =>
      cases fl with
      | ret u =>
        obtain ⟨v, H', os2, bare2, un2, hok2, rv, z, i', x1', x2', x3', rfl, a, b, c, rfl⟩ := hq'
        refine ⟨.int z, H, os2, bare2, un2.reread hp n2 n3 n4, fun a o e => ?_, rv, hQ z a b⟩
        by_cases ea : a = p
        · subst ea
          rw [hp] at e
          cases e
          obtain ⟨_, its, n', vv, gg⟩ := (show ObjOk P w _ s'.heap a (.lst [.int i', .int x1', .int x2', .int x3', .ref q]) from hok2 a _ upd_same)
          cases vv with
          | cons r1 vv => cases vv with
            | cons r2 vv => cases vv with
              | cons r3 vv => cases vv with
                | cons r4 vv => cases vv with
                  | cons r5 vv =>
                    cases vv
                    obtain ⟨_, rfl⟩ := r1
                    obtain ⟨_, rfl⟩ := r2
                    obtain ⟨_, rfl⟩ := r3
                    obtain ⟨_, rfl⟩ := r4
                    cases r5
                    refine ⟨⟨i', x1', x2', x3', _, _, _, _, n', c, gg⟩, ⟨_, gg⟩, fun h1 h2 ⟨j, y1, y2, y3, u0, u1, u2, u3, m, hj, hm⟩ kk => ⟨j, y1, y2, y3, u0, u1, u2, u3, m, hj, kk _ hm⟩⟩
        · have e' : upd H p (srcL i' x1' x2' x3' q) a = some o := by rw [upd_ne ea]; exact e
          have x := hok2 a o e'
          have y := ObjOk.reread (H := upd H p (srcL i' x1' x2' x3' q)) (p := p) (u := srcL i' x1' x2' x3' q) (v := SrcO p q) upd_same (fun x z => by cases z) (fun x z => by cases z) x
          have e2 : upd (upd H p (srcL i' x1' x2' x3' q)) p (SrcO p q) = H := by
            rw [upd_upd]
            funext b
            by_cases hb : b = p
            · rw [hb, upd_same, hp]
            · rw [upd_ne hb]
          rw [e2] at y
          exact y
      | next => exact False.elim hq'
      | brk => exact False.elim hq'
      | cont => exact False.elim hq'
theorem src_hide (F : FnOk P w K mg base CX k f fd ps (spSrc1 K)) (hCX : ∀ outer H s E e s', (∀ c d H', ¬ E c d H') → ¬ CX outer H s E e s') : FnOk P w K mg base CX k f fd ps (spSrc K) := by
  refine ⟨fun vs H Q E h => ?_, fun A outer s H args us vs Q E hr e0 hb r h => ?_⟩
  · obtain ⟨a, ns, rfl, h1, h2, h3⟩ := h
    exact F.len [.ref a] H (fun _ _ => True) E ⟨a, ns, rfl, h1, h2, fun _ _ _ _ _ _ _ _ _ => trivial⟩
  · obtain ⟨a, ns, rfl, h1, h2, hQ⟩ := h
    refine codeAny_mono (F.run A outer s _ args us _ (fun v H' => ∃ p q, v = .ref p ∧ H p = none ∧ Same H H' ∧ p ≠ q ∧ H' p = some (srcL 0 0 0 0 q) ∧ H' q = some (.lst (ns.map V.int))) (fun _ _ _ => False) hr e0 hb r
      ⟨a, ns, rfl, h1, h2, fun p q H' a1 _ a2 a3 a4 a5 => ⟨p, q, rfl, a1, a2, a3, a4, a5⟩⟩) fun r s' hq' => ?_
    cases r with
    | error e => exact absurd hq' (hCX _ _ _ _ _ _ fun _ _ _ z => z)
    | ok fl =>
      cases fl with
      | ret u =>
        obtain ⟨v, H', os2, bare2, un2, hok2, rv, p, q, rfl, np, sm, npq, hp, hqq⟩ := hq'
        have n1 : ∀ x, srcL 0 0 0 0 q ≠ .own x := fun x z => by cases z
        have n2 : ∀ xs, srcL 0 0 0 0 q ≠ .tup xs := fun x z => by cases z
        refine ⟨.ref p, upd H' p (SrcO p q), os2, bare2, ?_, fun b o e => ?_, rv, hQ p _ np (fun b o e => ?_) ⟨q, ns, upd_same, by rw [upd_ne npq.symm]; exact hqq, h2⟩⟩
        · exact {
            keep := un2.keep
            slot := un2.slot
            free := fun b o e n nx => (upd_none hp).mpr (un2.free b o e n nx)
            there := un2.there
            tups := fun b xs e => by rw [upd_ne (ne_of_none e np)]; exact un2.tups b xs e
            frzs := fun b o u e => by rw [upd_ne (ne_of_none e np)]; exact un2.frzs b o u e
            tbls := fun b ps e => by rw [upd_ne (ne_of_none e np)]; exact un2.tbls b ps e }
        · by_cases ea : b = p
          · subst ea
            rw [upd_same] at e
            cases e
            obtain ⟨_, its, n', vv, gg⟩ := (show ObjOk P w _ s'.heap b (.lst [.int 0, .int 0, .int 0, .int 0, .ref q]) from hok2 b _ hp)
            cases vv with
            | cons r1 vv => cases vv with
              | cons r2 vv => cases vv with
                | cons r3 vv => cases vv with
                  | cons r4 vv => cases vv with
                    | cons r5 vv =>
                      cases vv
                      obtain ⟨_, rfl⟩ := r1
                      obtain ⟨_, rfl⟩ := r2
                      obtain ⟨_, rfl⟩ := r3
                      obtain ⟨_, rfl⟩ := r4
                      cases r5
                      refine ⟨⟨0, 0, 0, 0, _, _, _, _, n', Int.le_refl _, gg⟩, ⟨_, gg⟩, fun h1 h2 ⟨j, y1, y2, y3, u0, u1, u2, u3, m, hj, hm⟩ kk => ⟨j, y1, y2, y3, u0, u1, u2, u3, m, hj, kk _ hm⟩⟩
          · rw [upd_ne ea] at e
            exact (hok2 b o e).reread hp n1 n2
        · rw [upd_ne (ne_of_none e np)]
          exact sm b o e
      | next => exact False.elim hq'
      | brk => exact False.elim hq'
      | cont => exact False.elim hq'
theorem cxn_no {outer : List Env} {H : Hp} {s : Shared} {E : XK} {e : Value} {s' : Shared} (h : ∀ c d H', ¬ E c d H') : ¬ L2N.CX P w outer H s E e s' := fun ⟨_, _, _, _, _, _, _, _, _, _, _, _, z⟩ => h _ _ _ z
def noT : HO → Prop
  | .dT _ => False
  | .frz _ u => noT u
  | _ => True
theorem ObjOk.forget {H H' : Hp} {h h' : Heap} {a : Addr} {o : HO} (n : noT o) (x0 : ObjOk P w H h a o) (z : ObjOk P w H' h' a o) : ObjOk P w H h' a o := by
  induction o with
  | lst xs => exact z
  | tup xs => exact z
  | dK kvs => exact z
  | dT kvs => exact n.elim
  | set S n => exact z
  | ins C dx fs => exact ⟨x0.1, z.2⟩
  | own y => exact z
  | xd fs => exact z
  | rng lo hi => exact z
  | frz ob u ih => exact ⟨z.1, ih n x0.2 z.2⟩
  | tbl ps => exact z
  | met f y => exact z
  | ext φ => exact z
/-- what a call has tracked beside what stood before is let go, where its value needs none of it -/
theorem HOk.forget {H H' : Hp} {h h' : Heap} (nt : ∀ a o, H a = some o → noT o) (x : HOk P w H h) (y : HOk P w H' h') (sm : Same H H') : HOk P w H h' := fun a o e =>
  (x a o e).forget (nt a o e) (y a o (sm a o e))
/-- a def whose value is no object: what it makes on its way is let go -/
theorem FnOk.forget {sp : Sp} (F : FnOk P w K mg base CX k f fd ps sp) (hCX : ∀ outer H s E e s', (∀ c d H', ¬ E c d H') → ¬ CX outer H s E e s') :
    FnOk P w K mg base CX k f fd ps (fun vs H Q _ => (∀ a o, H a = some o → noT o) ∧ sp vs H (fun v H' => Same H H' ∧ Q v H) (fun _ _ _ => False)) := by
  refine ⟨fun vs H Q E h => F.len vs H _ _ h.2, fun A outer s H args us vs Q E hr e0 hb r h => ?_⟩
  refine codeAny_mono (F.run A outer s H args us vs _ _ hr e0 hb r h.2) fun r s' hq' => ?_
  cases r with
  | error e => exact absurd hq' (hCX _ _ _ _ _ _ fun _ _ _ z => z)
  | ok fl =>
    cases fl with
    | ret u =>
      obtain ⟨v, H', os2, bare2, un2, hok2, rv, sm, q⟩ := hq'
      exact ⟨v, H, os2, bare2, { keep := un2.keep, slot := un2.slot, free := fun b o e n _ => n, there := un2.there, tups := fun b xs e => e, frzs := fun b o u e => e, tbls := fun b ps e => ⟨#[], by rw [Array.append_empty]; exact e⟩ }, e0.hok.forget h.1 hok2 sm, rv, q⟩
    | next => exact False.elim hq'
    | brk => exact False.elim hq'
    | cont => exact False.elim hq'
end
end L2
namespace L2
open PySem PySem.Spec PyProof.Rows
theorem iteP {b : Bool} {A B : Prop} (h : b = true) (k : A) : if b = true then A else B := by rw [if_pos h]; exact k
theorem iteN {b : Bool} {A B : Prop} (h : b = false) (k : B) : if b = true then A else B := by rw [h, if_neg Bool.false_ne_true]; exact k
theorem upd_id {H : Hp} {p : Addr} {o : HO} (h : H p = some o) : upd H p o = H := by
  funext b
  by_cases e : b = p
  · rw [e, upd_same, h]
  · rw [upd_ne e]
end L2

/-! The rules as the steps take them: names by an explicit list, side conditions apart. -/
namespace L2
open PySem PySem.Spec PyProof.Rows
/-- the name x stands at place i, with v -/
inductive At : List Str → St → Str → Nat → V → Prop
  | here {x : Str} {N : List Str} {σ : St} {v : V} : At (x :: N) (some v :: σ) x 0 v
  | there {x n : Str} {N : List Str} {σ : St} {s : Option V} {v : V} {i : Nat} : At N σ x i v → At (n :: N) (s :: σ) x (i + 1) v
/-- the name x is stored: σ' -/
inductive SetAt : List Str → St → Str → Nat → V → St → Prop
  | here {x : Str} {N : List Str} {σ : St} {s : Option V} {v : V} : SetAt (x :: N) (s :: σ) x 0 v (some v :: σ)
  | there {x n : Str} {N : List Str} {σ σ' : St} {s : Option V} {v : V} {i : Nat} : SetAt N σ x i v σ' → SetAt (n :: N) (s :: σ) x (i + 1) v (s :: σ')
theorem At.get {N : List Str} {σ : St} {x : Str} {i : Nat} {v : V} (h : At N σ x i v) : N[i]? = some x ∧ σ[i]? = some (some v) := by
  induction h with
  | here => exact ⟨rfl, rfl⟩
  | there _ ih => exact ⟨by simpa using ih.1, by simpa using ih.2⟩
theorem SetAt.get {N : List Str} {σ σ' : St} {x : Str} {i : Nat} {v : V} (h : SetAt N σ x i v σ') : N[i]? = some x ∧ σ.set i (some v) = σ' := by
  induction h with
  | here => exact ⟨rfl, rfl⟩
  | there _ ih => exact ⟨by simpa using ih.1, by simpa using ih.2⟩
/-- the names of a def: the first M are its own -/
structure NOk (N : List Str) (M : Nat) (sc : Scope) : Prop where
  nd : N.Nodup
  ok : ∀ x ∈ N.take M, (sc.names.lookup x = some .local ∨ sc.names.lookup x = some .cell) ∧ (x == ("__debug__" : Str)) = false ∧ (x == ("__classdict__" : Str)) = false
theorem NOk.at {N : List Str} {M : Nat} {sc : Scope} (h : NOk N M sc) {i : Nat} {x : Str} (hi : i < M) (e : N[i]? = some x) : Loc sc x ∧ (x == ("__debug__" : Str)) = false ∧ (x == ("__classdict__" : Str)) = false :=
  h.ok x (by
    have : (N.take M)[i]? = some x := by rw [List.getElem?_take_of_lt hi]; exact e
    exact List.mem_of_getElem? this)
theorem Loc.vis {sc : Scope} {x : Str} (h : Loc sc x) : Vis sc x := h.elim .inl fun z => .inr (.inl z)
section
variable {X : Cx} {e a b c : Expr} {es : List Expr} {st : Stmt} {sts rest : List Stmt} {σ σ' : St} {H : Hp} {Q : VK} {nx bk ct : NX} {rt : VK} {pos p : Pos} {N : List Str} {M i : Nat} {x : Str} {v : V}
theorem s_name {sc : Scope} (S : NOk N M sc) (at_ : At N σ x i v) (hi : i < M) (hN : X.N = N ∧ X.env.scope = sc) (q : Q v H) : ZE X (.Name x pos) σ H Q :=
  ze_var i (by rw [hN.1]; exact at_.get.1) at_.get.2 q (by rw [hN.2]; exact (S.at hi at_.get.1).1.vis) (S.at hi at_.get.1).2.1 (S.at hi at_.get.1).2.2
theorem s_set {pos' : Pos} {sc : Scope} (S : NOk N M sc) (hN : X.N = N ∧ X.env.scope = sc) (hf : X.fn x = true) (h : ZE X e σ H fun v H1 => ∃ i σ', SetAt N σ x i v σ' ∧ i < M ∧ nx σ' H1) (hs : swapsWith e (some (.Name x pos')) pos.line X.env = pure false) : ZS X (.Assign [.Name x pos'] e pos) nx rt bk ct σ H := by
  refine ⟨fun pins s I => ?_⟩
  refine wpAny_Assign_Name (thn (h.run pins s I) fun u s1 ⟨v, H1, I1, r, i, σ', sa, hi, q⟩ => ?_) hs
  have g := sa.get
  refine store_ok (i := i) (v := v) I1 (by rw [hN.1]; exact S.nd) (by rw [hN.1]; exact g.1) (by rw [hN.2]; exact (S.at hi g.1).1) r (fun s2 I2 => ?_) (.inl hf)
  rw [g.2] at I2
  exact ⟨σ', H1, I2, q⟩
theorem s_setAt {R : St → Prop} (sa : SetAt N σ x i v σ') (hi : i < M) (k : R σ') : ∃ i σ', SetAt N σ x i v σ' ∧ i < M ∧ R σ' := ⟨i, σ', sa, hi, k⟩
theorem s_gname {Q : St → Hp → Prop} {sc : Scope} (S : NOk N M sc) (sa : SetAt N σ x i v σ') (hi : i < M) (hN : X.N = N ∧ X.env.scope = sc) (hf : X.fn x = true) (q : Q σ' H) : ZG X (.Name x pos) v σ H Q :=
  zg_name i (by rw [hN.1]; exact S.nd) (by rw [hN.1]; exact sa.get.1) (by rw [sa.get.2]; exact q) (by rw [hN.2]; exact (S.at hi sa.get.1).1) (.inl hf)
theorem s_expr (h : ZE X e σ H fun _ H1 => nx σ H1) (hs : swapsWith e none pos.line X.env = pure false) : ZS X (.Expr e pos) nx rt bk ct σ H := zs_expr h hs
theorem s_asg (h : ZE X e σ H fun x H1 => ZG X a x σ H1 nx) (hs : swapsWithSole [a] e pos.line X.env = pure false) (hw : swappedStores [a] e X.env = pure none)
    (h1 : (assignEach [a] X.env).map (·.2) = [assign a X.env]) : ZS X (.Assign [a] e pos) nx rt bk ct σ H := zs_asg h hs hw h1
theorem s_attrS {f : Str} {pos' : Pos} (h : ZE X e σ H fun y H1 => ZE X a σ H1 fun x H2 => ∃ p C dx fs, x = .ref p ∧ H2 p = some (.ins C dx fs) ∧ Cls X.K C ∧ NoAttr X.K C f ∧ fs.length < 1000 ∧ nx σ (upd H2 p (.ins C dx (putF f y fs))))
    (hs : swapsWith e (some (.Attribute a f pos')) pos.line X.env = pure false) : ZS X (.Assign [.Attribute a f pos'] e pos) nx rt bk ct σ H := zs_attr h hs
theorem s_glob {u : Value} (hm : X.mg x = some u) (r : RelV v u) (hg : Gl X x) (hd : (x == ("__debug__" : Str)) = false) (q : Q v H) : ZE X (.Name x pos) σ H Q := ze_glob hm r q hg hd
theorem s_gref {mg : Str → Option Value} {a : Addr} (hm : mg x = some (.ref a)) (hB : X.mg = mg) (hg : Gl X x) (hd : (x == ("__debug__" : Str)) = false) (q : Q (.ref a) H) : ZE X (.Name x pos) σ H Q := ze_glob (v := .ref a) (by rw [hB]; exact hm) rfl q hg hd
theorem s_cons {Q : List V → Hp → Prop} (h : ZE X e σ H fun x H1 => ZA X es σ H1 fun xs H2 => Q (x :: xs) H2) (hs : starEach (e :: es) X.env = (false, eval e X.env) :: starEach es X.env) : ZA X (e :: es) σ H Q := za_cons h hs
theorem s_sub (h : ZE X a σ H fun x H1 => ZE X b σ H1 fun y H2 => IxW X x y H2 Q) (hs : PlainIx b) : ZE X (.Subscript a b pos) σ H Q := ze_sub h hs
theorem s_attr {f : Str} (h : ZE X a σ H fun x H1 => AtW X f x H1 Q) (hb : attributeBase a f X.env (eval a X.env) = eval a X.env) : ZE X (.Attribute a f pos) σ H Q := ze_attr h hb
theorem s_val {Q : Bool → Hp → Prop} (h : ZE X e σ H fun x H1 => ∃ k, x = .bl k ∧ Q k H1) (he : ∀ whole, isTrue e X.env whole = (do let v ← whole; standAt e.pos; holding [v] (truthy v))) : ZT X e σ H Q := zt_val h he
theorem s_truth {Q : Bool → Hp → Prop} (h : ZE X e σ H fun x H1 => ∃ k, TruV X.K x H1 k ∧ Q k H1) (he : ∀ whole, isTrue e X.env whole = (do let v ← whole; standAt e.pos; holding [v] (truthy v))) : ZT X e σ H Q := zt_truth h he
theorem s_gsub {Q : St → Hp → Prop} (h : ZE X a σ H fun o H1 => ZE X b σ H1 fun i H2 => SetW X o i v H2 fun H3 => Q σ H3)
    (ha : ∀ v, assign (.Subscript a b pos) X.env v = (do
      let ov ← holding [v] (eval a X.env)
      let iv ← holding [v, ov] (eval b X.env)
      standAt pos
      holding [v, ov, iv] (setItem ov iv v)
      release [v, ov, iv] [])) : ZG X (.Subscript a b pos) v σ H Q := zg_sub h ha
/-- the names of built-in functions, and what they are -/
inductive BFn : Str → String → Prop
  | len : BFn "len" "len" | abs : BFn "abs" "abs" | isi : BFn "isinstance" "isinstance" | max : BFn "max" "max" | min : BFn "min" "min" | dm : BFn "divmod" "divmod"
inductive BTy : Str → String → Prop
  | int : BTy "int" "int" | boo : BTy "bool" "bool" | str : BTy "str" "str" | tup : BTy "tuple" "tuple" | lst : BTy "list" "list" | ve : BTy "ValueError" "ValueError"
theorem BFn.ok {x : Str} {id : String} (h : BFn x id) {mg : Str → Option Value} (B : Blt mg) : mg x = none ∧ bootBuiltins x = some (.builtin id) ∧ x ≠ "__name__" ∧ (x == ("__debug__" : Str)) = false := by
  cases h with
  | len => exact ⟨B.len, boot_len, by decide, by decide⟩
  | abs => exact ⟨B.abs, by decide +kernel, by decide, by decide⟩
  | isi => exact ⟨B.isi, by decide +kernel, by decide, by decide⟩
  | max => exact ⟨B.max, by decide +kernel, by decide, by decide⟩
  | min => exact ⟨B.min, by decide +kernel, by decide, by decide⟩
  | dm => exact ⟨B.dm, by decide +kernel, by decide, by decide⟩
theorem BTy.ok {x : Str} {id : String} (h : BTy x id) {mg : Str → Option Value} (B : Blt mg) : mg x = none ∧ bootBuiltins x = some (.type id) ∧ x ≠ "__name__" ∧ (x == ("__debug__" : Str)) = false := by
  cases h with
  | int => exact ⟨B.int, by decide +kernel, by decide, by decide⟩
  | boo => exact ⟨B.boo, by decide +kernel, by decide, by decide⟩
  | str => exact ⟨B.str, by decide +kernel, by decide, by decide⟩
  | tup => exact ⟨B.tup, by decide +kernel, by decide, by decide⟩
  | lst => exact ⟨B.lst, by decide +kernel, by decide, by decide⟩
  | ve => exact ⟨B.ve, by decide +kernel, by decide, by decide⟩
theorem s_callB {id : String} {mg : Str → Option Value} (f : BFn x id) (B : Blt mg) (hB : X.mg = mg) (h : ZA X (e :: es) σ H fun vs H1 => CallW X (.builtin id) vs H1 Q) (hg : Gl X x)
    (he : starEach (e :: es) X.env = (false, eval e X.env) :: starEach es X.env) (hpl : (backTo pos (starEach es X.env)).any (·.1) = false) : ZE X (.Call (.Name x p) (e :: es) [] pos) σ H Q := by
  subst hB; exact ze_callB (f.ok B).1 (f.ok B).2.1 h hg (f.ok B).2.2.1 (f.ok B).2.2.2 he hpl
theorem s_callT {id : String} {mg : Str → Option Value} (f : BTy x id) (B : Blt mg) (hB : X.mg = mg) (h : ZA X (e :: es) σ H fun vs H1 => CallW X (.type id) vs H1 Q) (hg : Gl X x)
    (he : starEach (e :: es) X.env = (false, eval e X.env) :: starEach es X.env) (hpl : (backTo pos (starEach es X.env)).any (·.1) = false) : ZE X (.Call (.Name x p) (e :: es) [] pos) σ H Q := by
  subst hB; exact ze_callT (f.ok B).1 (f.ok B).2.1 h hg (f.ok B).2.2.1 (f.ok B).2.2.2 he hpl
theorem s_bty {id : String} {mg : Str → Option Value} (f : BTy x id) (B : Blt mg) (hB : X.mg = mg) (hg : Gl X x) (q : Q (.ty id) H) : ZE X (.Name x pos) σ H Q := by
  subst hB; exact ze_bltn (v := .ty id) (u := .type id) (f.ok B).1 (f.ok B).2.1 rfl q hg (f.ok B).2.2.1 (f.ok B).2.2.2
/-- where a body stands -/
structure XIs (X : Cx) (P : Program) (w : World) (K : PySem.W.Frag) (mg : Str → Option Value) (base : Heap) (A : Around) : Prop where
  prog : X.prog = P
  w : X.w = w
  K : X.K = K
  mg : X.mg = mg
  base : X.base = base
  A : X.A = A
theorem s_call {P : Program} {w : World} {K : PySem.W.Frag} {mg : Str → Option Value} {base : Heap} {A : Around} {k j : Nat} {sp : Sp} (c : Cal P w K mg base k x sp) (hr : Room j A) (hk : k ≤ j) (hX : XIs X P w K mg base A) (h : ZA X (e :: es) σ H fun vs H1 => sp vs H1 Q fun cls d H' => XW X cls d σ H') (hg : Gl X x)
    (hdb : (x == ("__debug__" : Str)) = false) (he : starEach (e :: es) X.env = (false, eval e X.env) :: starEach es X.env) (hpl : (backTo pos (starEach es X.env)).any (·.1) = false) : ZE X (.Call (.Name x p) (e :: es) [] pos) σ H Q := by
  obtain ⟨rfl, rfl, rfl, rfl, rfl, rfl⟩ := hX
  exact ze_call c hr hk h hg hdb he hpl
theorem s_call0 {P : Program} {w : World} {K : PySem.W.Frag} {mg : Str → Option Value} {base : Heap} {A : Around} {k j : Nat} {sp : Sp} (c : Cal P w K mg base k x sp) (hr : Room j A) (hk : k ≤ j) (hX : XIs X P w K mg base A) (h : sp [] H Q fun cls d H' => XW X cls d σ H') (hg : Gl X x)
    (hdb : (x == ("__debug__" : Str)) = false) : ZE X (.Call (.Name x p) [] [] pos) σ H Q := by
  obtain ⟨rfl, rfl, rfl, rfl, rfl, rfl⟩ := hX
  exact ze_call0 c hr hk h hg hdb
end
end L2

/-! More rules: heaps by what they keep, texts' methods, blocks, loops, calls within an except suite. -/
namespace L2
open PySem PySem.Spec PyProof.Rows
/-! ### heaps -/
theorem Same.get {H H' : Hp} {a : Addr} {o : HO} (s : Same H H') (h : H a = some o) : H' a = some o := s a o h
theorem Same.new {H H' : Hp} {p : Addr} {o : HO} (s : Same H H') (n : H' p = none) : Same H (upd H' p o) := fun a u e => by rw [upd_ne (ne_of_none (s a u e) n)]; exact s a u e
theorem Same.put {H H' : Hp} {p : Addr} {o : HO} (s : Same H H') (n : H p = none) : Same H (upd H' p o) := fun a u e => by rw [upd_ne (ne_of_none e n)]; exact s a u e
theorem upd_no {H : Hp} {p q : Addr} {o : HO} (h : upd H p o q = none) : H q = none := by
  by_cases e : q = p
  · subst e; rw [upd_same] at h; cases h
  · rwa [upd_ne e] at h
theorem upd_no_ne {H : Hp} {p q : Addr} {o : HO} (h : upd H p o q = none) : q ≠ p := fun e => by subst e; rw [upd_same] at h; cases h
/-- p is free in H -/
structure NoA (H : Hp) (p : Addr) : Prop where
  e : H p = none
theorem intro_no {H : Hp} {R : Addr → Prop} (h : ∀ p, NoA H p → R p) : ∀ p, H p = none → R p := fun p e => h p ⟨e⟩
/-- a is tracked in H -/
def Trk (H : Hp) (a : Addr) : Prop := ∃ o, H a = some o
theorem Trk.of {H : Hp} {a : Addr} {o : HO} (h : H a = some o) : Trk H a := ⟨o, h⟩
theorem Trk.put {H : Hp} {a : Addr} {o : HO} : Trk (upd H a o) a := ⟨o, upd_same⟩
theorem Trk.up {H : Hp} {a p : Addr} {o : HO} (h : Trk H a) : Trk (upd H p o) a := by
  by_cases e : a = p
  · subst e; exact .put
  · obtain ⟨u, hu⟩ := h; exact ⟨u, by rw [upd_ne e]; exact hu⟩
theorem Trk.same {H H' : Hp} {a : Addr} (s : Same H H') (h : Trk H a) : Trk H' a := ⟨_, s _ _ h.choose_spec⟩
theorem Trk.src {H : Hp} {a : Addr} (h : Src H a) : Trk H a := by obtain ⟨q, ns, a, b, c⟩ := h; exact ⟨_, a⟩
theorem Trk.ne {H : Hp} {a b : Addr} (h : Trk H a) (n : NoA H b) : a ≠ b := ne_of_none h.choose_spec n.e
theorem NoA.ne {H : Hp} {a b : Addr} {o : HO} (h : H a = some o) (n : NoA H b) : a ≠ b := ne_of_none h n.e
theorem NoA.free {H H' : Hp} {a : Addr} (s : Same H H') (n : NoA H' a) : H a = none := Same.free s n.e
theorem Src.same {H H' : Hp} {p : Addr} (s : Same H H') (h : Src H p) : Src H' p := by
  obtain ⟨q, ns, a, b, c⟩ := h
  exact ⟨q, ns, s _ _ a, s _ _ b, c⟩
/-! ### isinstance of a built-in class -/
section
variable {X : Cx} {H : Hp} {Q : VK} {x : V}
theorem cw_isb {a b : String} {r : Bool} (hx : TyX X.K H x (.type a)) (hk : kitB a b = some r) (h : Q (.bl r) H) : CallW X (.builtin "isinstance") [x, .ty b] H Q := cw_isi (.ty b) hx (kit_ty hk) h
end
/-! ### methods of texts and lists -/
inductive BM : String → Str → String → Prop
  | startswith : BM "str" "startswith" "str.startswith" | endswith : BM "str" "endswith" "str.endswith" | upper : BM "str" "upper" "str.upper" | lower : BM "str" "lower" "str.lower"
  | strip : BM "str" "strip" "str.strip" | join : BM "str" "join" "str.join" | find : BM "str" "find" "str.find" | count : BM "str" "count" "str.count" | split : BM "str" "split" "str.split"
  | index : BM "list" "index" "list.index" | append : BM "list" "append" "list.append" | isdigit : BM "str" "isdigit" "str.isdigit" | isalpha : BM "str" "isalpha" "str.isalpha" | partition : BM "str" "partition" "str.partition"
  | rstrip : BM "str" "rstrip" "str.rstrip" | lstrip : BM "str" "lstrip" "str.lstrip" | isspace : BM "str" "isspace" "str.isspace" | isalnum : BM "str" "isalnum" "str.isalnum"
theorem BM.ok {T id : String} {m : Str} (h : BM T m id) : PlainAttrs T ∧ Slot T m id ∧ typeOf (.builtin id) = pure (.type "method_descriptor") := by
  cases h with
  | startswith => exact ⟨F.plainAttrs_str, F.slot_str_startswith, F.type_str_startswith⟩
  | endswith => exact ⟨F.plainAttrs_str, F.slot_str_endswith, F.type_str_endswith⟩
  | upper => exact ⟨F.plainAttrs_str, F.slot_str_upper, F.type_str_upper⟩
  | lower => exact ⟨F.plainAttrs_str, F.slot_str_lower, F.type_str_lower⟩
  | strip => exact ⟨F.plainAttrs_str, F.slot_str_strip, F.type_str_strip⟩
  | join => exact ⟨F.plainAttrs_str, F.slot_str_join, F.type_str_join⟩
  | find => exact ⟨F.plainAttrs_str, F.slot_str_find, F.type_str_find⟩
  | count => exact ⟨F.plainAttrs_str, F.slot_str_count, F.type_str_count⟩
  | split => exact ⟨F.plainAttrs_str, F.slot_str_split, F.type_str_split⟩
  | index => exact ⟨F.plainAttrs_list, F.slot_list_index, F.type_list_index⟩
  | append => exact ⟨F.plainAttrs_list, F.slot_list_append, F.type_list_append⟩
  | isdigit => exact ⟨F.plainAttrs_str, F.slot_str_isdigit, F.type_str_isdigit⟩
  | isalpha => exact ⟨F.plainAttrs_str, F.slot_str_isalpha, F.type_str_isalpha⟩
  | partition => exact ⟨F.plainAttrs_str, F.slot_str_partition, F.type_str_partition⟩
  | rstrip => exact ⟨F.plainAttrs_str, F.slot_str_rstrip, F.type_str_rstrip⟩
  | lstrip => exact ⟨F.plainAttrs_str, F.slot_str_lstrip, F.type_str_lstrip⟩
  | isspace => exact ⟨F.plainAttrs_str, F.slot_str_isspace, F.type_str_isspace⟩
  | isalnum => exact ⟨F.plainAttrs_str, F.slot_str_isalnum, F.type_str_isalnum⟩
section
variable {X : Cx} {e a b c : Expr} {es : List Expr} {σ : St} {H : Hp} {Q : VK} {pos apos : Pos} {z z2 : Str} {p : Addr} {xs : List V} {y : V}
theorem s_bm0 {T id : String} {m : Str} (f : BM T m id) (h : ZE X a σ H fun x H1 => tyV X.K T x H1 ∧ MtW X id x [] H1 Q) (hbase : attributeBase a m X.env (eval a X.env) = eval a X.env) (hline : (apos.endLine == pos.line) = true) :
    ZE X (.Call (.Attribute a m apos) [] [] pos) σ H Q := ze_bm0 f.ok.1 f.ok.2.1 f.ok.2.2 h hbase hline
theorem s_bm {T id : String} {m : Str} (f : BM T m id) (h : ZE X a σ H fun x H1 => tyV X.K T x H1 ∧ ZA X (e :: es) σ H1 fun xs H2 => MtW X id x xs H2 Q) (hbase : attributeBase a m X.env (eval a X.env) = eval a X.env) (hline : (apos.endLine == pos.line) = true)
    (hfew : ((backTo pos (starEach (e :: es) X.env)).all (fun x => !x.1) && (backToKw pos (keywordEach [] X.env)).all (fun x => x.1.isSome)
      && decide ((e :: es).length + ([] : List Keyword).length + (if ([] : List Keyword).isEmpty then 0 else 1) < 30)) = true)
    (hs : starEach (e :: es) X.env = (false, eval e X.env) :: starEach es X.env) (hplain : (backTo pos (starEach es X.env)).any (·.1) = false) :
    ZE X (.Call (.Attribute a m apos) (e :: es) [] pos) σ H Q := ze_bm f.ok.1 f.ok.2.1 f.ok.2.2 h hbase hfew hline hs hplain
theorem mw_startswith (h : Q (.bl (Txt.startswith z z2)) H) : MtW X "str.startswith" (.str z) [.str z2] H Q := MtR.w mt_startswith ⟨z, z2, rfl, rfl, h⟩
theorem mw_endswith (h : Q (.bl (Txt.endswith z z2)) H) : MtW X "str.endswith" (.str z) [.str z2] H Q := MtR.w mt_endswith ⟨z, z2, rfl, rfl, h⟩
theorem mw_find (h : Q (.int (Txt.find z z2)) H) : MtW X "str.find" (.str z) [.str z2] H Q := MtR.w mt_find ⟨z, z2, rfl, rfl, h⟩
theorem mw_count (h : Q (.int (Txt.count z z2)) H) : MtW X "str.count" (.str z) [.str z2] H Q := MtR.w mt_count ⟨z, z2, rfl, rfl, h⟩
theorem mw_upper (hz : z.length ≤ 5592405) (h : Q (.str (Txt.upper z)) H) : MtW X "str.upper" (.str z) [] H Q := MtR.w mt_upper ⟨z, rfl, rfl, hz, h⟩
theorem mw_lower (hz : z.length ≤ 5592405) (h : Q (.str (Txt.lower z)) H) : MtW X "str.lower" (.str z) [] H Q := MtR.w mt_lower ⟨z, rfl, rfl, hz, h⟩
theorem mw_strip (hz : z.length ≤ sizeLine) (h : Q (.str (Txt.strip z)) H) : MtW X "str.strip" (.str z) [] H Q := MtR.w mt_strip ⟨z, rfl, rfl, hz, h⟩
theorem mw_isdigit (h : Q (.bl (Txt.isdigit z)) H) : MtW X "str.isdigit" (.str z) [] H Q := MtR.w mt_isdigit ⟨z, rfl, rfl, trivial, h⟩
theorem mw_join {ys : List Str} (hp : SqL X.K H p (ys.map V.str) ∨ SqT X.K H p (ys.map V.str)) (hz : (ys.map (·.length)).sum + ys.length * z.length ≤ 16777216) (h : Q (.str (Txt.join z ys)) H) : MtW X "str.join" (.str z) [.ref p] H Q := MtR.w mt_join ⟨z, p, ys, rfl, rfl, hp, hz, h⟩
theorem mw_index {j : Nat} {v : V} (hs : SqL X.K H p xs) (hy : flatV y = true) (hx : xs.all flatV = true) (hj : xs[j]? = some v) (hv : eqV v y = true) (hno : ∀ (m : Nat) (z' : V), m < j → xs[m]? = some z' → eqV z' y = false) (h : Q (.int (j : Nat)) H) :
    MtW X "list.index" (.ref p) [y] H Q := MtR.w mt_index ⟨p, xs, y, j, v, rfl, rfl, hs, hy, hx, hj, hv, hno, h⟩
/-- x.upper().replace(y, z) -/
theorem ze_upRep {y z : Str} {j k : Nat} {c0 c1 upos upos' : Pos} (h : ZE X a σ H fun v H1 => ∃ x, v = .str x ∧ x.length ≤ 5592405 ∧ (Txt.upper x).length + ((Txt.upper x).length + 1) * z.length ≤ 16777216 ∧ Q (.str (Txt.replace (Txt.upper x) y z)) H1) (hyz : (y == z) = false := by decide)
    (hst : starEach [.Constant (.str y) j c0, .Constant (.str z) k c1] X.env = [(false, eval (.Constant (.str y) j c0) X.env), (false, eval (.Constant (.str z) k c1) X.env)] := by rfl)
    (hb1 : attributeBase a "upper" X.env (eval a X.env) = eval a X.env := by rfl) (hl1 : (upos.endLine == upos'.line) = true := by rfl)
    (hbase : attributeBase (.Call (.Attribute a "upper" upos) [] [] upos') "replace" X.env (eval (.Call (.Attribute a "upper" upos) [] [] upos') X.env) = eval (.Call (.Attribute a "upper" upos) [] [] upos') X.env := by rfl) (hline : (apos.endLine == pos.line) = true := by rfl) :
    ZE X (.Call (.Attribute (.Call (.Attribute a "upper" upos) [] [] upos') "replace" apos) [.Constant (.str y) j c0, .Constant (.str z) k c1] [] pos) σ H Q := by
  refine ⟨fun pins s I => ?_⟩
  refine PySem.Call_method2 hbase hst hline (PySem.Call_method0 hb1 hl1 (thn (h.run pins s I) fun v s1 hh => ?_))
  obtain ⟨v', H1, I1, r1, x, e1, hx, hb, q⟩ := hh
  subst e1
  obtain ⟨tx, e2⟩ := r1
  subst e2
  refine PySem.SB.upper (PyProof.Rows.short24 (by have := PyProof.Rows.len_upper x; omega)) ?_
  refine ⟨"str", _, PySem.F.plainAttrs_str, PySem.F.slot_str_replace, PySem.F.type_str_replace, typeIs_str _ _ _, (fun _ e => nomatch e), Calls.callWith_builtin rfl (Calls.evalArgs_plain (Calls.spliced_cons ?_))⟩
  refine Calls.Constant_str (Calls.spliced_cons (Calls.Constant_str (Calls.spliced_nil ?_)))
  exact PySem.SC.replace (by show s1.toks + 1 ≠ 0; omega) (by show s1.toks + 1 + 1 ≠ 0; omega) (by show s1.toks + 1 ≠ s1.toks + 1 + 1; omega) hyz hb fun t' k => ⟨.str (Txt.replace (Txt.upper x) y z), H1, (I1.tok (s1.toks + 1)).tok k, ⟨t', rfl⟩, q⟩
/-- what a written dict has at a text -/
def WGet (K : PySem.W.Frag) (w : World) (p : Addr) (z : Str) (r : Option V) : Prop := ∃ es n u, K.lookup p = some ⟨.type "dict", none, .dict es n, #[]⟩ ∧ PySem.W.KeysLit w.params es.toList ∧ (p == sysModules) = false ∧ PySem.W.nsIn K p z = some u ∧ RelO r u
/-- d.get(k, x) of a written dict -/
theorem ze_getW (h : ZE X a σ H fun x H1 => ∃ p : Addr, x = .ref p ∧ (∃ es n, X.K.lookup p = some ⟨.type "dict", none, .dict es n, #[]⟩) ∧ ZE X b σ H1 fun y H2 => ZE X c σ H2 fun d H3 => ∃ (z : Str) (r : Option V), y = .str z ∧ WGet X.K X.w p z r ∧ Q (r.getD d) H3)
    (hst : starEach [b, c] X.env = [(false, eval b X.env), (false, eval c X.env)] := by rfl) (hbase : attributeBase a "get" X.env (eval a X.env) = eval a X.env := by rfl) (hline : (apos.endLine == pos.line) = true := by rfl) :
    ZE X (.Call (.Attribute a "get" apos) [b, c] [] pos) σ H Q := by
  refine ⟨fun pins s I => ?_⟩
  refine PySem.Call_method2 hbase hst hline (thn (h.run pins s I) fun v s1 hh => ?_)
  obtain ⟨x, H1, I1, r1, p, ex, ⟨es0, n0, hl0⟩, q1⟩ := hh
  subst ex
  obtain rfl : v = Value.ref p := r1
  refine ⟨"dict", _, PySem.F.plainAttrs_dict, PySem.F.slot_dict_get, PySem.F.type_dict_get, ⟨_, I1.kIn _ _ hl0, rfl⟩, (fun b' e => ?_), Calls.callWith_builtin rfl (Calls.evalArgs_plain (Calls.spliced_cons (thn (q1.run pins s1 I1) fun iv s2 hy => ?_)))⟩
  · cases e
    exact ⟨_, I1.kIn _ _ hl0, rfl⟩
  · obtain ⟨y, H2, I2, ry, q2⟩ := hy
    refine Calls.spliced_cons (thn (q2.run pins s2 I2) fun fv s3 hz => Calls.spliced_nil ?_)
    obtain ⟨d, H3, I3, rd, z, r, ey, ⟨es, n, u, hl, hk, low, hf, ro⟩, q⟩ := hz
    subst ey
    obtain ⟨t, rfl⟩ := ry
    have hm := PySem.W.mapOf_K (prog := X.prog) (w := X.w) I3.kIn hl hk
    refine call_meetsIn PySem.F.slot_dict_get hm.typeIs PySem.F.entry_dict_get (PySem.F.args_dict_get_3 _ _ _) (meets_dict_get_default (strKind X.prog X.w) p (strKind_is X.prog X.w z t) low fv) ⟨_, hm, r.getD d, H3, I3.tok _, ?_, q⟩
    rw [PySem.W.find_K hl hf]
    exact ro.getD rd
end
/-! ### comprehensions -/
section
variable {X : Cx} {elt tg iter : Expr} {scope : Scope} {own : List (Str × Nat)} {pos : Pos} {σ : St} {H : Hp} {Q : VK}
/-- within a block of X, whichever its state -/
def Blk (X : Cx) (scope : Scope) (φ : Cx → Prop) : Prop := ∀ (s : Shared) (H : Hp) (C : Addr) (cl : List (Str × Addr)) (fp : List Addr), φ (X.blk s H scope (compEnvC scope cl C X.env) fp)
def gBlk (X : Cx) (scope : Scope) (tg : Expr) : TG := fun v σ H Q => Blk X scope fun Y => ZG Y tg v σ H Q
def eBlk (X : Cx) (scope : Scope) (e : Expr) : TE := fun σ H Q => Blk X scope fun Y => ZE Y e σ H Q
def tBlk (X : Cx) (scope : Scope) (e : Expr) : TT := fun σ H Q => Blk X scope fun Y => ZT Y e σ H Q
theorem pg_blk (s : Shared) (H : Hp) (C : Addr) (cl : List (Str × Addr)) (fp : List Addr) : PG (X.blk s H scope (compEnvC scope cl C X.env) fp) tg (gBlk X scope tg) := ⟨fun pins s' σ H' v u Q I r h => (h s H C cl fp).run pins s' u I r⟩
theorem pe_blk (s : Shared) (H : Hp) (C : Addr) (cl : List (Str × Addr)) (fp : List Addr) : PE (X.blk s H scope (compEnvC scope cl C X.env) fp) elt (eBlk X scope elt) := ⟨fun pins s' σ H' Q I h => (h s H C cl fp).run pins s' I⟩
theorem pt_blk (s : Shared) (H : Hp) (C : Addr) (cl : List (Str × Addr)) (fp : List Addr) : PT (X.blk s H scope (compEnvC scope cl C X.env) fp) elt (tBlk X scope elt) := ⟨fun pins s' σ H' Q I h => (h s H C cl fp).run pins s' I⟩
/-- [elt for tg in iter], iter a list that the block leaves as it is: Pv by the turn -/
theorem ze_lcL (hc : X.calm = true) (hN : X.N.Nodup) (ok : BlkOk X.N X.env.scope scope own)
    (h : ZE X iter σ H fun x H1 => ∃ a xs, x = .ref a ∧ SqL X.K H1 a xs ∧ ∀ D, H1 D = none → ∃ Pv : Nat → Hp → Prop, Pv 0 (upd H1 D (.lst [])) ∧ (∀ i H, i ≤ xs.length → Pv i H → SqL X.K H a xs) ∧
      (∀ i x H, xs[i]? = some x → Pv i H → gBlk X scope tg x (wipe σ (own.map (·.2))) H fun σ2 H2 => wipe σ2 (own.map (·.2)) = wipe σ (own.map (·.2)) ∧ eBlk X scope elt σ2 H2 fun y H4 => ∃ acc, H4 D = some (.lst acc) ∧ acc.length < sizeLine ∧ Pv (i + 1) (upd H4 D (.lst (acc ++ [y])))) ∧
      ∀ H, Pv xs.length H → Q (.ref D) H)
    (hs : ∀ x, foldedSetIterable iter X.env x = pure x := by intro _; rfl) : ZE X (.ListComp elt [⟨tg, iter, [], 0⟩] scope pos) σ H Q := by
  refine (pe_lc (tt := tYes) hc hN (pi_list (tg := tg) pe_we) ok pg_blk (fun _ _ _ _ _ => pts_nil) pe_blk hs).w ?_
  refine ⟨fun pins s I => thn (h.run pins s I) fun u s1 hh => ?_⟩
  obtain ⟨x, H1, I1, r1, a, xs, ex, hl, k⟩ := hh
  refine ⟨x, H1, I1, r1, a, ex, ⟨xs, hl⟩, fun D hD => ?_⟩
  obtain ⟨Pv, h0, hk, hs', hd⟩ := k D hD
  refine lc_list (g := gBlk X scope tg) (te := eBlk X scope elt) (tt := tYes) Pv h0 hk (fun i x H hx hp => ?_) hd
  exact hs' i x _ hx hp
/-- [elt for tg in iter if c] -/
theorem ze_lcLi {c : Expr} (hc : X.calm = true) (hN : X.N.Nodup) (ok : BlkOk X.N X.env.scope scope own)
    (h : ZE X iter σ H fun x H1 => ∃ a xs, x = .ref a ∧ SqL X.K H1 a xs ∧ ∀ D, H1 D = none → ∃ Pv : Nat → Hp → Prop, Pv 0 (upd H1 D (.lst [])) ∧ (∀ i H, i ≤ xs.length → Pv i H → SqL X.K H a xs) ∧
      (∀ i x H, xs[i]? = some x → Pv i H → gBlk X scope tg x (wipe σ (own.map (·.2))) H fun σ2 H2 => wipe σ2 (own.map (·.2)) = wipe σ (own.map (·.2)) ∧ tBlk X scope c σ2 H2 fun b H3 => if b = true then eBlk X scope elt σ2 H3 fun y H4 => ∃ acc, H4 D = some (.lst acc) ∧ acc.length < sizeLine ∧ Pv (i + 1) (upd H4 D (.lst (acc ++ [y]))) else Pv (i + 1) H3) ∧
      ∀ H, Pv xs.length H → Q (.ref D) H)
    (hs : ∀ x, foldedSetIterable iter X.env x = pure x := by intro _; rfl) : ZE X (.ListComp elt [⟨tg, iter, [c], 0⟩] scope pos) σ H Q := by
  refine (pe_lc (tt := tBlk X scope c) hc hN (pi_list (tg := tg) pe_we) ok pg_blk (fun s H C cl fp => pts_one (pt_blk s H C cl fp)) pe_blk hs).w ?_
  refine ⟨fun pins s I => thn (h.run pins s I) fun u s1 hh => ?_⟩
  obtain ⟨x, H1, I1, r1, a, xs, ex, hl, k⟩ := hh
  refine ⟨x, H1, I1, r1, a, ex, ⟨xs, hl⟩, fun D hD => ?_⟩
  obtain ⟨Pv, h0, hk, hs', hd⟩ := k D hD
  exact lc_list (g := gBlk X scope tg) (te := eBlk X scope elt) (tt := tBlk X scope c) Pv h0 hk (fun i x H hx hp => hs' i x _ hx hp) hd
/-- [elt for tg in range(n)] -/
theorem ze_lcR {e : Expr} {p : Pos} {rpos : Pos} (hc : X.calm = true) (hN : X.N.Nodup) (ok : BlkOk X.N X.env.scope scope own) (hm : X.mg "range" = none)
    (h : ZA X [e] σ H fun vs H1 => ∃ j : Int, vs = [.int j] ∧ -(2 ^ 62) ≤ j ∧ j < 2 ^ 62 ∧ ∀ D, H1 D = none → ∃ Pv : Nat → Hp → Prop, Pv 0 (upd H1 D (.lst [])) ∧
      (∀ (i : Nat) H, i < j.toNat → Pv i H → gBlk X scope tg (.int i) (wipe σ (own.map (·.2))) H fun σ2 H2 => wipe σ2 (own.map (·.2)) = wipe σ (own.map (·.2)) ∧ eBlk X scope elt σ2 H2 fun y H4 => ∃ acc, H4 D = some (.lst acc) ∧ acc.length < sizeLine ∧ Pv (i + 1) (upd H4 D (.lst (acc ++ [y])))) ∧
      ∀ H, Pv j.toNat H → Q (.ref D) H)
    (hg : Gl X "range" := by rfl) (hst : starEach [e] X.env = [(false, eval e X.env)] := by rfl) (hs : ∀ x, foldedSetIterable (.Call (.Name "range" p) [e] [] rpos) X.env x = pure x := by intro _; rfl) : ZE X (.ListComp elt [⟨tg, .Call (.Name "range" p) [e] [] rpos, [], 0⟩] scope pos) σ H Q := by
  refine (pe_lc (tt := tYes) hc hN (pi_range1 (tg := tg) hg hm pa_wa hst) ok pg_blk (fun _ _ _ _ _ => pts_nil) pe_blk hs).w ?_
  refine ⟨fun ps pins s I => thn (h.run ps pins s I) fun u s1 hh => ?_⟩
  obtain ⟨vs, H1, I1, r1, j, ex, l1, l2, k⟩ := hh
  refine ⟨vs, H1, I1, r1, j, ex, l1, l2, fun D hD => ?_⟩
  obtain ⟨Pv, h0, hs', hd⟩ := k D hD
  exact lc_range (lo := 0) (g := gBlk X scope tg) (te := eBlk X scope elt) (tt := tYes) Pv h0 (fun i H hx hp => by
    have := hs' i _ hx hp
    rw [Int.zero_add]
    exact this) hd
end
/-! ### loops -/
section
variable {X : Cx} {tg a e b : Expr} {body : List Stmt} {σ : St} {H : Hp} {nx bk ct : NX} {rt : VK} {pos p rpos : Pos}
/-- for tg in range(n): Iv by the turn; `break` goes to nx -/
theorem zs_forR (hp : PassesOwn (model X.prog X.w) X.A X.env X.xe) (hc : X.calm = true) (hm : X.mg "range" = none)
    (h : ZA X [e] σ H fun vs H1 => ∃ j : Int, vs = [.int j] ∧ -(2 ^ 62) ≤ j ∧ j < 2 ^ 62 ∧ ∃ Iv : Nat → St → Hp → Prop, Iv 0 σ H1 ∧
      (∀ (i : Nat) σ1 H2, (i : Int) < j → Iv i σ1 H2 → ZG X tg (.int i) σ1 H2 fun σ2 H3 => ZSs X body (Iv (i + 1)) rt nx (Iv (i + 1)) σ2 H3) ∧ ∀ σ1 H2, Iv j.toNat σ1 H2 → nx σ1 H2)
    (hg : Gl X "range" := by rfl) (hst : starEach [e] X.env = [(false, eval e X.env)] := by rfl) (hs : ∀ x, foldedSetIterable (.Call (.Name "range" p) [e] [] rpos) X.env x = pure x := by intro _; rfl) :
    ZS X (.For tg (.Call (.Name "range" p) [e] [] rpos) body [] pos) nx rt bk ct σ H := by
  refine zs_for hp hc (zi_range1 hm ?_ hg hst) hs
  refine ⟨fun ps pins s I => thn (h.run ps pins s I) fun u s1 hh => ?_⟩
  obtain ⟨vs, H1, I1, r1, j, ex, l1, l2, Iv, i0, st, fi⟩ := hh
  refine ⟨vs, H1, I1, r1, j, ex, l1, l2, fun i m σ' H' => m = j.toNat - i ∧ i ≤ j.toNat ∧ Iv i σ' H', ⟨_, rfl, Nat.zero_le _, i0⟩, ?_⟩
  rintro i m σ' H' ⟨rfl, hi, iv⟩
  by_cases hlt : i < j.toNat
  · refine .inr ⟨hlt, Iv (i + 1), fun σ2 H2 q => ⟨_, by omega, rfl, hlt, q⟩, fun x H2 y => ?_⟩
    obtain ⟨rfl, rfl⟩ := y
    have := st i σ' _ (by omega) iv
    simpa using this
  · have e : i = j.toNat := by omega
    subst e
    exact .inl ⟨Nat.le_refl _, fi _ _ iv⟩
/-- for tg in range(lo, hi) -/
theorem zs_forR2 (hp : PassesOwn (model X.prog X.w) X.A X.env X.xe) (hc : X.calm = true) (hm : X.mg "range" = none)
    (h : ZA X [e, b] σ H fun vs H1 => ∃ lo j : Int, vs = [.int lo, .int j] ∧ (-(2 ^ 62) ≤ lo ∧ lo < 2 ^ 62 ∧ -(2 ^ 62) ≤ j ∧ j < 2 ^ 62) ∧ ∃ Iv : Nat → St → Hp → Prop, Iv 0 σ H1 ∧
      (∀ (i : Nat) σ1 H2, lo + (i : Int) < j → Iv i σ1 H2 → ZG X tg (.int (lo + i)) σ1 H2 fun σ2 H3 => ZSs X body (Iv (i + 1)) rt nx (Iv (i + 1)) σ2 H3) ∧ ∀ σ1 H2, Iv (j - lo).toNat σ1 H2 → nx σ1 H2)
    (hg : Gl X "range" := by rfl) (hst : starEach [e, b] X.env = [(false, eval e X.env), (false, eval b X.env)] := by rfl) (hst2 : starEach [b] X.env = [(false, eval b X.env)] := by rfl) (hs : ∀ x, foldedSetIterable (.Call (.Name "range" p) [e, b] [] rpos) X.env x = pure x := by intro _; rfl) :
    ZS X (.For tg (.Call (.Name "range" p) [e, b] [] rpos) body [] pos) nx rt bk ct σ H := by
  refine zs_for hp hc (zi_range2 hm ?_ hg hst hst2) hs
  refine ⟨fun ps pins s I => thn (h.run ps pins s I) fun u s1 hh => ?_⟩
  obtain ⟨vs, H1, I1, r1, lo, j, ex, l1, Iv, i0, st, fi⟩ := hh
  refine ⟨vs, H1, I1, r1, lo, j, ex, l1, fun i m σ' H' => m = (j - lo).toNat - i ∧ i ≤ (j - lo).toNat ∧ Iv i σ' H', ⟨_, rfl, Nat.zero_le _, i0⟩, ?_⟩
  rintro i m σ' H' ⟨rfl, hi, iv⟩
  by_cases hlt : i < (j - lo).toNat
  · refine .inr ⟨hlt, Iv (i + 1), fun σ2 H2 q => ⟨_, by omega, rfl, hlt, q⟩, fun x H2 y => ?_⟩
    obtain ⟨rfl, rfl⟩ := y
    exact st i σ' _ (by omega) iv
  · have e : i = (j - lo).toNat := by omega
    subst e
    exact .inl ⟨Nat.le_refl _, fi _ _ iv⟩
/-- for tg in a list that the turns leave as it is -/
theorem zs_forL (hp : PassesOwn (model X.prog X.w) X.A X.env X.xe) (hc : X.calm = true)
    (h : ZE X a σ H fun x H1 => ∃ p xs, x = .ref p ∧ SqL X.K H1 p xs ∧ ∃ Iv : Nat → St → Hp → Prop, Iv 0 σ H1 ∧ (∀ i σ1 H2, i ≤ xs.length → Iv i σ1 H2 → SqL X.K H2 p xs) ∧
      (∀ i y σ1 H2, xs[i]? = some y → Iv i σ1 H2 → ZG X tg y σ1 H2 fun σ2 H3 => ZSs X body (Iv (i + 1)) rt nx (Iv (i + 1)) σ2 H3) ∧ ∀ σ1 H2, Iv xs.length σ1 H2 → nx σ1 H2)
    (hs : ∀ x, foldedSetIterable a X.env x = pure x := by intro _; rfl) : ZS X (.For tg a body [] pos) nx rt bk ct σ H := by
  refine zs_for hp hc (zi_list ?_) hs
  refine ⟨fun pins s I => thn (h.run pins s I) fun u s1 hh => ?_⟩
  obtain ⟨x, H1, I1, r1, q, xs, ex, hl, Iv, i0, kp, st, fi⟩ := hh
  refine ⟨x, H1, I1, r1, q, ex, ⟨xs, hl⟩, fun i m σ' H' => m = xs.length - i ∧ i ≤ xs.length ∧ Iv i σ' H', ⟨_, rfl, Nat.zero_le _, i0⟩, ?_⟩
  rintro i m σ' H' ⟨rfl, hi, iv⟩
  have hl' := kp i σ' H' hi iv
  by_cases hlt : i < xs.length
  · refine .inr ⟨⟨xs, xs[i], hl', by simp [hlt]⟩, Iv (i + 1), fun σ2 H2 q => ⟨_, by omega, rfl, hlt, q⟩, fun y H2 yy => ?_⟩
    obtain ⟨e, yy⟩ := yy
    subst e
    exact st i y σ' _ (yy xs hl') iv
  · have e : i = xs.length := by omega
    subst e
    exact .inl ⟨⟨xs, hl', Nat.le_refl _⟩, fi _ _ iv⟩
/-- for tg in a tuple -/
theorem zs_forT (hp : PassesOwn (model X.prog X.w) X.A X.env X.xe) (hc : X.calm = true)
    (h : ZE X a σ H fun x H1 => ∃ p xs, x = .ref p ∧ SqT X.K H1 p xs ∧ ∃ Iv : Nat → St → Hp → Prop, Iv 0 σ H1 ∧ (∀ i σ1 H2, i ≤ xs.length → Iv i σ1 H2 → SqT X.K H2 p xs) ∧
      (∀ i y σ1 H2, xs[i]? = some y → Iv i σ1 H2 → ZG X tg y σ1 H2 fun σ2 H3 => ZSs X body (Iv (i + 1)) rt nx (Iv (i + 1)) σ2 H3) ∧ ∀ σ1 H2, Iv xs.length σ1 H2 → nx σ1 H2)
    (hs : ∀ x, foldedSetIterable a X.env x = pure x := by intro _; rfl) : ZS X (.For tg a body [] pos) nx rt bk ct σ H := by
  refine zs_for hp hc (zi_tup ?_) hs
  refine ⟨fun pins s I => thn (h.run pins s I) fun u s1 hh => ?_⟩
  obtain ⟨x, H1, I1, r1, q, xs, ex, hl, Iv, i0, kp, st, fi⟩ := hh
  refine ⟨x, H1, I1, r1, q, ex, ⟨xs, hl⟩, fun i m σ' H' => m = xs.length - i ∧ i ≤ xs.length ∧ Iv i σ' H', ⟨_, rfl, Nat.zero_le _, i0⟩, ?_⟩
  rintro i m σ' H' ⟨rfl, hi, iv⟩
  have hl' := kp i σ' H' hi iv
  by_cases hlt : i < xs.length
  · refine .inr ⟨⟨xs, xs[i], hl', by simp [hlt]⟩, Iv (i + 1), fun σ2 H2 q => ⟨_, by omega, rfl, hlt, q⟩, fun y H2 yy => ?_⟩
    obtain ⟨e, yy⟩ := yy
    subst e
    exact st i y σ' _ (yy xs hl') iv
  · have e : i = xs.length := by omega
    subst e
    exact .inl ⟨⟨xs, hl', Nat.le_refl _⟩, fi _ _ iv⟩
/-- while c: Iv with a measure -/
theorem zs_whl {c : Expr} (hp : PassesOwn (model X.prog X.w) X.A X.env X.xe) (Iv : Nat → St → Hp → Prop) (m0 : Nat) (h0 : Iv m0 σ H)
    (st : ∀ m σ1 H1, Iv m σ1 H1 → ZT X c σ1 H1 fun k H2 => if k = true then ZSs X body (fun σ2 H3 => ∃ m', m' < m ∧ Iv m' σ2 H3) rt nx (fun σ2 H3 => ∃ m', m' < m ∧ Iv m' σ2 H3) σ1 H2 else nx σ1 H2) : ZS X (.While c body [] pos) nx rt bk ct σ H :=
  zs_while hp ⟨Iv, ⟨m0, h0⟩, fun m σ1 H1 iv => ⟨fun pins s I => wpAny_mono ((st m σ1 H1 iv).run pins s I) (fun k s1 hh => by
    obtain ⟨H2, I2, q⟩ := hh
    refine ⟨H2, I2, ?_⟩
    cases k
    · exact q
    · exact ⟨_, fun _ _ z => z, q⟩) fun _ _ z => z⟩⟩
end
/-! ### calls within an except suite -/
structure CalH (P : Program) (w : World) (K : PySem.W.Frag) (mg : Str → Option Value) (base : Heap) (k : Nat) (x : Str) (sp : Sp) : Prop where
  ex : ∃ (f : Addr) (fd : FuncData) (ps : List Str), L2H.FnH P w K mg base (L2N.CX P w) k f fd ps sp ∧ mg x = some (.ref f) ∧ PySem.W.keepIn K (.ref f) = true ∧ Binds K fd ps []
section
variable {X : Cx} {e a : Expr} {es : List Expr} {σ : St} {H : Hp} {Q : VK} {p pos apos : Pos}
theorem ze_callH {x : Str} {k j : Nat} {sp : Sp} (c : CalH X.prog X.w X.K X.mg X.base k x sp) (hr : L2H.RoomH j X.A) (hc : L2H.HotC X) (hk : k ≤ j) (h : ZA X (e :: es) σ H fun vs H1 => sp vs H1 Q fun cls d H' => XW X cls d σ H') (hg : Gl X x)
    (hdb : (x == ("__debug__" : Str)) = false) (he : starEach (e :: es) X.env = (false, eval e X.env) :: starEach es X.env) (hpl : (backTo pos (starEach es X.env)).any (·.1) = false) : ZE X (.Call (.Name x p) (e :: es) [] pos) σ H Q := by
  obtain ⟨f, fd, ps, F, gm, kp, hb⟩ := c.ex
  refine (L2H.pe_callH (E := fun σ cls d H' => XW X cls d σ H') F (hr.mono hk) hc hg gm kp hb (fun σ pins H s e' s' I hq => takes_xw e' s' (L2N.XE.of_call I (fun cls d H' w => w) hq)) pa_wa hdb he hpl).w h
end
theorem FunH.ok {P : Program} {w : World} {K : PySem.W.Frag} {mg : Str → Option Value} {base : Heap} {x qual : Str} {st : Stmt} {f : Addr} {fd : FuncData} {N ps : List Str} {k : Nat} {sp : Sp} (F : Fun K x qual st f fd) (S : FnScope N ps (defScope st)) (len : ∀ vs H Q E, sp vs H Q E → vs.length = ps.length)
    (hbody : ∀ (cdv : Value) (A : Around) (outer : List Env) (s : Shared) (H : Hp) (vs : List V) (Q : VK) (E : XK) (p : Addr × Obj), L2H.Hot1 A p → L2H.RoomH k (A.deeper (envOfC qual (defScope st) s.heap.objs.size f cdv)) → sp vs H Q E →
      ZSs (L2H.cxH (L2N.CX P w) P w K mg base N qual (defScope st) f cdv A outer s H E p) (defBody st) (fun _ H' => Q .non H') Q (fun _ _ => False) (fun _ _ => False) (start N vs) H) : L2H.FnH P w K mg base (L2N.CX P w) (k + 1) f fd ps sp := by
  obtain ⟨oc, od, kV, doc, pm, an, cdv, ct, osl, rfl, lk, hcd⟩ := F.ex
  exact L2H.fn_ofH lk hcd S len fun A outer s H vs Q E p hot hr hsp => ⟨_, pss_wss, hbody cdv A outer s H vs Q E p hot hr hsp⟩
/-! ### raise, in a step -/
structure XCls (P : Program) (K : PySem.W.Frag) (mg : Str → Option Value) (x : Str) (C : Addr) (nms : List Str) : Prop where
  T : PySem.LX.ExcT K C
  gC : mg x = some (.ref C)
  ini : ∃ fI, PySem.W.findIn K (.ref C) "__init__" = some (some (.ref fI)) ∧ PySem.W.typeIn K (.ref fI) = some (.type "function") ∧ PySem.LX.InitRuns P K mg C fI nms
theorem s_raise {X : Cx} {e : Expr} {es : List Expr} {σ : St} {H : Hp} {nx bk ct : NX} {rt : VK} {p pos pos2 : Pos} {P : Program} {w : World} {K : PySem.W.Frag} {mg : Str → Option Value} {base : Heap} {A : Around} {x : Str} {C : Addr} {nms : List Str} {j : Nat} (c : XCls P K mg x C nms) (hr : Room j A) (hX : XIs X P w K mg base A) (hc : X.calm = true)
    (h : ZA X (e :: es) σ H fun vs H1 => vs.length = nms.length ∧ nms.length ≤ 10 ∧ ∀ d, H1 d = none → XW X (.ref C) (some d) σ (upd H1 d (.xd (nms.zip vs).reverse))) (hg : Gl X x)
    (hdb : (x == ("__debug__" : Str)) = false) (he : starEach (e :: es) X.env = (false, eval e X.env) :: starEach es X.env) (hpl : (backTo pos (starEach es X.env)).any (·.1) = false) : ZS X (.Raise (some (.Call (.Name x p) (e :: es) [] pos)) none pos2) nx rt bk ct σ H := by
  obtain ⟨rfl, rfl, rfl, rfl, rfl, rfl⟩ := hX
  obtain ⟨fI, a, b, ir⟩ := c.ini
  exact zs_raise (c := e) hc c.T a b ir c.gC hr h hg hdb he hpl
end L2
namespace L2
open PySem PySem.Spec PyProof.Rows
/-! ### equal data, by depth -/
inductive DEq (K : PySem.W.Frag) (H : Hp) : Nat → V → V → Prop
  | non {n : Nat} : DEq K H n .non .non
  | bl {n : Nat} (b : Bool) : DEq K H n (.bl b) (.bl b)
  | int {n : Nat} (i : Int) : DEq K H n (.int i) (.int i)
  | str {n : Nat} (z : Str) : DEq K H n (.str z) (.str z)
  | lst {n : Nat} {p q : Addr} {xs ys : List V} (hx : SqL K H p xs) (hy : SqL K H q ys) (hz : xs.length ≤ sizeLine) (hl : xs.length = ys.length) (h : ∀ (i : Nat) (x y : V), xs[i]? = some x → ys[i]? = some y → DEq K H n x y) : DEq K H (n + 1) (.ref p) (.ref q)
  | tup {n : Nat} {p q : Addr} {xs ys : List V} (hx : SqT K H p xs) (hy : SqT K H q ys) (hz : xs.length ≤ sizeLine) (hl : xs.length = ys.length) (h : ∀ (i : Nat) (x y : V), xs[i]? = some x → ys[i]? = some y → DEq K H n x y) : DEq K H (n + 1) (.ref p) (.ref q)
theorem DEq.self {K : PySem.W.Frag} {H : Hp} {n : Nat} {x : V} (h : flatV x = true) (h2 : ∀ b, x ≠ .byt b) (h3 : ∀ b, x ≠ .flt b) (h4 : ∀ a, x ≠ .ref a) : DEq K H n x x := by
  cases x with
  | non => exact .non
  | bl b => exact .bl b
  | int i => exact .int i
  | str z => exact .str z
  | byt b => exact absurd rfl (h2 b)
  | flt b => exact absurd rfl (h3 b)
  | ref a => exact absurd rfl (h4 a)
  | ty t => exact absurd h (by simp [flatV])
/-- the plain data: no object -/
inductive Sc : V → Prop
  | non : Sc .non | bl (b : Bool) : Sc (.bl b) | int (i : Int) : Sc (.int i) | str (z : Str) : Sc (.str z)
theorem Sc.eq {K : PySem.W.Frag} {H : Hp} {n : Nat} {x : V} (h : Sc x) : DEq K H n x x := by
  cases h with
  | non => exact .non
  | bl b => exact .bl b
  | int i => exact .int i
  | str z => exact .str z
theorem DEq.lstS {K : PySem.W.Frag} {H : Hp} {n : Nat} {p q : Addr} {xs : List V} (hx : SqL K H p xs) (hy : SqL K H q xs) (hz : xs.length ≤ sizeLine) (h : ∀ x ∈ xs, Sc x) : DEq K H (n + 1) (.ref p) (.ref q) :=
  .lst hx hy hz rfl fun i x y a b => by rw [a] at b; cases b; exact (h x (List.mem_of_getElem? a)).eq
theorem DEq.tupS {K : PySem.W.Frag} {H : Hp} {n : Nat} {p q : Addr} {xs : List V} (hx : SqT K H p xs) (hy : SqT K H q xs) (hz : xs.length ≤ sizeLine) (h : ∀ x ∈ xs, Sc x) : DEq K H (n + 1) (.ref p) (.ref q) :=
  .tup hx hy hz rfl fun i x y a b => by rw [a] at b; cases b; exact (h x (List.mem_of_getElem? a)).eq
def spEq (K : PySem.W.Frag) (n : Nat) : Sp := fun vs H Q _ => ∃ x y, vs = [x, y] ∧ DEq K H n x y ∧ Q (.bl true) H
def spEqS : Sp := fun vs H Q _ => ∃ x, vs = [x, x] ∧ Sc x ∧ Q (.bl true) H
theorem equal_do {K : PySem.W.Frag} {n : Nat} {x y : V} {H : Hp} {Q : VK} {E : XK} (h : DEq K H n x y) (q : Q (.bl true) H) : spEq K n [x, y] H Q E := ⟨x, y, rfl, h, q⟩
theorem equalS_do {x : V} {H : Hp} {Q : VK} {E : XK} (h : Sc x) (q : Q (.bl true) H) : spEqS [x, x] H Q E := ⟨x, rfl, h, q⟩
theorem TyX.ofL {K : PySem.W.Frag} {H : Hp} {p : Addr} {xs : List V} (h : SqL K H p xs) : TyX K H (.ref p) (.type "list") := by
  rcases h with (h | ⟨o, h⟩) | ⟨o, _, _, h, c, _⟩
  · exact .base (.lst h)
  · exact .base (.frz h)
  · exact .kList h c
theorem TyX.ofT {K : PySem.W.Frag} {H : Hp} {p : Addr} {xs : List V} (h : SqT K H p xs) : TyX K H (.ref p) (.type "tuple") := by
  rcases h with (h | ⟨o, h⟩) | ⟨o, _, _, h, c, _⟩
  · exact .base (.tup h)
  · exact .fTuple h
  · exact .kTuple h c
theorem inV_str {z : Str} : ∀ {l : List Str}, inV (.str z) (l.map V.str) = decide (z ∈ l)
  | [] => rfl
  | a :: l => by
    have ih := inV_str (z := z) (l := l)
    unfold inV at ih ⊢
    rw [List.map_cons, List.any_cons, ih]
    by_cases e : a = z
    · subst e; simp [eqV]
    · have e2 : ¬ z = a := fun x => e x.symm
      simp [eqV, e, e2]
end L2
namespace L2
open PySem PySem.Spec PyProof.Rows
theorem idxOf_before {l : List Str} {z : Str} : ∀ {m : Nat} {y : Str}, m < l.idxOf z → l[m]? = some y → y ≠ z := by
  induction l with
  | nil => intro m y h h2; simp at h2
  | cons a l ih =>
    intro m y h h2
    rw [List.idxOf_cons] at h
    by_cases e : a = z
    · subst e; simp at h
    · have e2 : (a == z) = false := by simpa using e
      rw [e2] at h
      cases m with
      | zero => simp at h2; subst h2; exact e
      | succ m =>
        simp at h2
        exact ih (by simp at h; omega) h2
theorem mw_indexS {X : Cx} {H : Hp} {Q : VK} {p : Addr} {l : List Str} {z : Str} (hs : SqL X.K H p (l.map V.str)) (hz : z ∈ l) (h : Q (.int (l.idxOf z : Nat)) H) : MtW X "list.index" (.ref p) [.str z] H Q := by
  have hlt : l.idxOf z < l.length := List.idxOf_lt_length_of_mem hz
  have e : l[l.idxOf z]? = some z := by rw [List.getElem?_eq_getElem hlt, List.getElem_idxOf]
  refine mw_index (j := l.idxOf z) (v := .str z) hs rfl (by simp [List.all_map, flatV]) (by rw [List.getElem?_map, e]; rfl) (by simp [eqV]) (fun m z' hm hz' => ?_) h
  obtain ⟨y, hy, rfl⟩ := map_get hz'
  have := idxOf_before hm hy
  simp [eqV, this]
end L2
namespace L2
open PySem PySem.Spec PyProof.Rows
theorem draw_do {p : Addr} {many : Int} {H : Hp} {Q : VK} {E : XK} (h1 : 0 < many) (h2 : many < 1073741824) (h3 : Src H p) (h : ∀ v, 0 ≤ v → v < many → Q (.int v) H) : spDraw [.ref p, .int many] H Q E := ⟨p, many, rfl, h1, h2, h3, h⟩
theorem cutS_len (z : Str) (lo hi : Option Int) : (cutS z lo hi).length ≤ z.length := by
  have e : z.length = z.cps.toList.length := rfl
  rw [e]
  show (List.toArray _).size ≤ _
  rw [List.size_toArray, List.length_take, List.length_drop]
  omega
theorem str_app_len (a b : Str) : (a ++ b).length = a.length + b.length := by
  show (a.cps ++ b.cps).size = _
  rw [Array.size_append]; rfl
end L2
namespace L2
open PySem PySem.Spec PyProof.Rows
/-! ### within an except suite -/
section
variable {X : Cx} {a : Addr} {oe : Obj} {cls : Value} {d : Option Addr} {pn : List (Addr × Obj)} {H : Hp} {Q : VK} {σ : St}
theorem hot_suite (hz : L2N.Zn cls d oe) (hf : ∃ vs, oe.data = .fields vs) : L2H.HotC (X.suite a ((a, oe) :: pn)) := by
  obtain ⟨vs, e⟩ := hf
  exact ⟨(a, oe), ⟨rfl, vs, e, hz.2.2 vs e⟩, List.mem_cons_self⟩
theorem cw_isx {D : Addr} {c : V} {cv : Value} {b : Bool} (hz : L2N.Zn cls d oe) (hf : ∃ vs, oe.data = .fields vs) (hc : cls = .ref D) (T : PySem.LX.ExcT X.K D) (hd : DOk H d) (hv : ClsV c cv) (hk : PySem.W.kitOne X.K (.ref D) cv = some b) (q : Q (.bl b) H) :
    CallW (X.suite a ((a, oe) :: pn)) (.builtin "isinstance") [.ref a, c] H Q := (call_isX hz.zc hf).w ⟨D, c, cv, b, hc, T, hd, rfl, fun _ r => hv.eq r, hk, q⟩
theorem aw_xd {C dd : Addr} {fs : List (Str × V)} {v : V} {n : Str} (hz : L2N.Zn cls d oe) (hf : ∃ vs, oe.data = .fields vs) (hc : cls = .ref C) (hd : d = some dd) (T : PySem.LX.ExcT X.K C) (hno : PySem.W.findIn X.K (.ref C) n = some none) (ea : H dd = some (.xd fs)) (l : fs.lookup n = some v) (q : Q v H) :
    AtW (X.suite a ((a, oe) :: pn)) n (.ref a) H Q := by
  refine ⟨fun pins s1 σ u I1 rx => ?_⟩
  obtain rfl : u = Value.ref a := rx
  subst hc
  subst hd
  obtain ⟨ha, _⟩ := I1.pin (a, oe) (List.mem_append_left _ List.mem_cons_self)
  obtain ⟨vs, hdt⟩ := hf
  have hx : ObjOk X.prog X.w H s1.heap dd (.xd fs) := I1.hok dd _ ea
  obtain ⟨mA, hns, hr⟩ := hx
  obtain ⟨od, ho, hl⟩ := lookIn_ns hns
  obtain ⟨u, hu, ru⟩ := RelO.some_of (v := v) (o := mA n) (by rw [← l]; exact hr n)
  have J : PySem.W.InstAt s1.heap a oe C (some od) := ⟨ha, hz.1, by unfold PySem.W.notCls; rw [hdt] <;> rfl, by rw [hz.2.1]; exact ho⟩
  exact HandSPX.exc_get I1.kIn J T.ga T.gg T.ox.exC (PySem.W.findObj_own T.hd hno rfl (by rw [hl, hu])) (handed_of ru) ⟨v, H, I1.tok _, ru, q⟩
theorem s_callH {P : Program} {w : World} {K : PySem.W.Frag} {mg : Str → Option Value} {base : Heap} {A : Around} {x : Str} {k j : Nat} {sp : Sp} {e : Expr} {es : List Expr} {p pos : Pos} (c : CalH P w K mg base k x sp) (hz : L2N.Zn cls d oe) (hf : ∃ vs, oe.data = .fields vs) (hr : Room j A) (hk : k ≤ j) (hX : XIs X P w K mg base A)
    (h : ZA (X.suite a ((a, oe) :: pn)) (e :: es) σ H fun vs H1 => sp vs H1 Q fun cls d H' => XW (X.suite a ((a, oe) :: pn)) cls d σ H') (hg : Gl X x)
    (hdb : (x == ("__debug__" : Str)) = false) (he : starEach (e :: es) X.env = (false, eval e X.env) :: starEach es X.env) (hpl : (backTo pos (starEach es X.env)).any (·.1) = false) : ZE (X.suite a ((a, oe) :: pn)) (.Call (.Name x p) (e :: es) [] pos) σ H Q := by
  obtain ⟨rfl, rfl, rfl, rfl, rfl, rfl⟩ := hX
  exact ze_callH (X := X.suite a ((a, oe) :: pn)) c (j := j) (show L2H.RoomH j (X.A.mark (some (.ref a))) from ⟨hr.dp, hr.un⟩) (hot_suite hz hf) hk h hg hdb he hpl
theorem s_try {P : Program} {w : World} {K : PySem.W.Frag} {mg : Str → Option Value} {base : Heap} {A : Around} {x n : Str} {CL : Addr} {i : Nat} {body suite : List Stmt} {b₀ : Stmt} {np pos pos' : Pos} {N : List Str} {M : Nat} {sc : Scope} {nx bk ct : NX} {rt : VK} (gC : mg x = some (.ref CL)) (S : NOk N M sc) (hX : XIs X P w K mg base A) (hN : X.N = N ∧ X.env.scope = sc) (hi : N[i]? = some n)
    (hs : X.stack = X.env :: X.outer) (hf : X.env.frame = some X.env.locals) (hln : X.env.kindOf n = some .local) (hg : Gl X x) (hdb : (x == ("__debug__" : Str)) = false)
    (h : ∀ (pn : List (Addr × Obj)) (xe : Value → Shared → Prop), (∀ cls d σ H, (∃ b, PySem.W.exmOne K cls (.ref CL) = some b ∧ (b = true → ∀ a, H a = none → ∀ (oe : Obj) (pn : List (Addr × Obj)), L2N.Zn cls d oe → (∃ vs, oe.data = .fields vs) → ZSs (X.suite a ((a, oe) :: pn)) (b₀ :: suite) (fun σ' H' => nx (σ'.set i none) H') rt (fun σ' H' => bk (σ'.set i none) H') (fun σ' H' => ct (σ'.set i none) H') (σ.set i (some (.ref a))) H) ∧ (b = false → XW X cls d σ H)) → XW (X.tr pn xe) cls d σ H) →
      PassesOwn (model X.prog X.w) X.A X.env xe → ZSs (X.tr pn xe) body nx rt bk ct σ H) :
    ZS X (.Try body [.ExceptHandler (some (.Name x np)) (some n) (b₀ :: suite) pos'] [] [] pos) nx rt bk ct σ H := by
  obtain ⟨rfl, rfl, rfl, rfl, rfl, rfl⟩ := hX
  obtain ⟨rfl, rfl⟩ := hN
  refine zs_try_as hs hf S.nd hi hln ⟨hg, hdb, .inl gC⟩ fun pn xe tk hp => h pn xe (fun cls d σ H hh => xw_of tk ?_) hp
  obtain ⟨b, h1, h2, h3⟩ := hh
  exact ⟨b, h1, fun hb a na oe pn hz hf => h2 hb a na oe pn hz hf, h3⟩
end
end L2
namespace L2
open PySem PySem.Spec PyProof.Rows
theorem src_do {K : PySem.W.Frag} {a : Addr} {ns : List Int} {H : Hp} {Q : VK} {E : XK} (h1 : SqL K H a (ns.map V.int)) (h2 : ns.length ≤ 1000) (h : ∀ p H', NoA H p → Same H H' → Src H' p → Q (.ref p) H') : spSrc K [.ref a] H Q E := ⟨a, ns, rfl, h1, h2, fun p H' n => h p H' ⟨n⟩⟩
theorem mem_cutV {xs : List V} {lo hi : Option Int} {y : V} (h : y ∈ cutV xs lo hi) : y ∈ xs := by
  unfold cutV at h
  exact List.mem_of_mem_drop (List.mem_of_mem_take h)
/-- the law's promise -/
def spLaw (K : PySem.W.Frag) : Sp := fun vs H Q _ => ∃ (a : Addr) (ns : List Int), vs = [.ref a] ∧ SqL K H a (ns.map V.int) ∧ ns.length ≤ 63 ∧ ∀ H', Q (.bl true) H'
end L2
namespace L2
open PySem PySem.Spec PyProof.Rows
theorem Sc.nil : ∀ x ∈ ([] : List V), Sc x := fun x h => by cases h
theorem Sc.cons {a : V} {l : List V} (h : Sc a) (t : ∀ x ∈ l, Sc x) : ∀ x ∈ a :: l, Sc x := fun x hx => by
  rcases List.mem_cons.mp hx with rfl | hx
  · exact h
  · exact t x hx
theorem Sc.app {a l : List V} (h : ∀ x ∈ a, Sc x) (t : ∀ x ∈ l, Sc x) : ∀ x ∈ a ++ l, Sc x := fun x hx => (List.mem_append.mp hx).elim (h x) (t x)
theorem Sc.mapS {l : List Str} : ∀ x ∈ l.map V.str, Sc x := fun x hx => by
  obtain ⟨m, _, rfl⟩ := List.mem_map.mp hx
  exact .str m
theorem Sc.mapI {l : List Int} : ∀ x ∈ l.map V.int, Sc x := fun x hx => by
  obtain ⟨m, _, rfl⟩ := List.mem_map.mp hx
  exact .int m
end L2
namespace L2
open PySem PySem.Spec PyProof.Rows
theorem Cal.of {P : Program} {w : World} {K : PySem.W.Frag} {mg : Str → Option Value} {base : Heap} {k : Nat} {x : Str} {f : Addr} {fd : FuncData} {ps : List Str} {sp : Sp} (F : FnOk P w K mg base (L2N.CX P w) k f fd ps sp) (g : mg x = some (.ref f)) (kp : PySem.W.keepIn K (.ref f) = true) (b : Binds K fd ps []) : Cal P w K mg base k x sp :=
  ⟨f, fd, ps, [], [], sp, F, g, kp, b, .nil, fun vs H Q E h => by rw [List.append_nil]; exact h⟩
theorem CalH.of {P : Program} {w : World} {K : PySem.W.Frag} {mg : Str → Option Value} {base : Heap} {k : Nat} {x : Str} {f : Addr} {fd : FuncData} {ps : List Str} {sp : Sp} (F : L2H.FnH P w K mg base (L2N.CX P w) k f fd ps sp) (g : mg x = some (.ref f)) (kp : PySem.W.keepIn K (.ref f) = true) (b : Binds K fd ps []) : CalH P w K mg base k x sp :=
  ⟨f, fd, ps, F, g, kp, b⟩
end L2

/-! Still more rules: where a token is given out, blocks, ranges. -/
namespace L2
open PySem PySem.Spec PyProof.Rows
section
variable {X : Cx} {e a b c : Expr} {es : List Expr} {σ σ' : St} {H : Hp} {Q : VK} {pos apos p : Pos}
/-! ### one token is given out -/
structure ZE1 (X : Cx) (e : Expr) (σ : St) (H : Hp) (Q : VK) : Prop where
  run : ∀ pins s, 1 ≤ s.toks → Inv X pins σ H s → wpAny (model X.prog X.w) X.A (eval e X.env) (EP X pins σ Q) X.xe s
structure ZEs (X : Cx) (e : Expr) (σ : St) (H : Hp) (Q : VK) : Prop where
  run : ∀ pins s, Inv X pins σ H s → wpAny (model X.prog X.w) X.A (eval e X.env) (fun v s' => 1 ≤ s'.toks ∧ EP X pins σ Q v s') X.xe s
structure ZA1 (X : Cx) (es : List Expr) (σ : St) (H : Hp) (Q : List V → Hp → Prop) : Prop where
  run : ∀ pos pins s, 1 ≤ s.toks → Inv X pins σ H s → wpAny (model X.prog X.w) X.A (spliced (backTo pos (starEach es X.env))) (AP X pins σ Q) X.xe s
theorem ze1_of (h : ZE X e σ H Q) : ZE1 X e σ H Q := ⟨fun pins s _ I => h.run pins s I⟩
theorem za1_nil {Q : List V → Hp → Prop} (q : Q [] H) : ZA1 X [] σ H Q := ⟨fun pos pins s _ I => (za_nil q).run pos pins s I⟩
theorem za1_cons {Q : List V → Hp → Prop} (h : ZE1 X e σ H fun x H1 => ZA1 X es σ H1 fun xs H2 => Q (x :: xs) H2) (hs : starEach (e :: es) X.env = (false, eval e X.env) :: starEach es X.env) : ZA1 X (e :: es) σ H Q := by
  refine ⟨fun pos pins s h0 I => ?_⟩
  rw [hs]
  show wpAny _ _ (spliced ((false, eval e X.env) :: backTo pos (starEach es X.env))) _ _ s
  refine Calls.spliced_cons (wpAny_mono (PySem.wpAny_toks (h.run pins s h0 I)) (fun v s1 q => ?_) fun _ _ z => z.2)
  obtain ⟨hk, x, H1, I1, r1, q1⟩ := q
  exact thn (q1.run pos pins s1 (Nat.le_trans h0 hk) I1) fun us s2 ⟨xs, H2, I2, r2, q2⟩ => ⟨x :: xs, H2, I2, .cons r1 r2, q2⟩
theorem za_conss {Q : List V → Hp → Prop} (h : ZEs X e σ H fun x H1 => ZA1 X es σ H1 fun xs H2 => Q (x :: xs) H2) (hs : starEach (e :: es) X.env = (false, eval e X.env) :: starEach es X.env) : ZA X (e :: es) σ H Q := by
  refine ⟨fun pos pins s I => ?_⟩
  rw [hs]
  show wpAny _ _ (spliced ((false, eval e X.env) :: backTo pos (starEach es X.env))) _ _ s
  refine Calls.spliced_cons (wpAny_mono (h.run pins s I) (fun v s1 q => ?_) fun _ _ z => z)
  obtain ⟨hk, x, H1, I1, r1, q1⟩ := q
  exact thn (q1.run pos pins s1 hk I1) fun us s2 ⟨xs, H2, I2, r2, q2⟩ => ⟨x :: xs, H2, I2, .cons r1 r2, q2⟩
/-- e + 'text' -/
theorem zes_addlit {z : Str} {j : Nat} {c0 : Pos} (h : ZE X a σ H fun x H1 => OpW X (binaryOp .Add) x (.str z) H1 Q) : ZEs X (.BinOp a .Add (.Constant (.str z) j c0) pos) σ H Q := by
  refine ⟨fun pins s I => ?_⟩
  refine wpAny_BinOp (thn (h.run pins s I) fun v s1 ⟨x, H1, I1, r1, q1⟩ => Calls.Constant_str ?_)
  refine wpAny_mono (PySem.wpAny_toks (q1.run pins { s1 with toks := s1.toks + 1 } σ v (.str z s1.toks) (I1.tok (s1.toks + 1)) r1 ⟨_, rfl⟩)) (fun u s2 q => ⟨?_, q.2⟩) fun _ _ z => z.2
  have : s1.toks + 1 ≤ s2.toks := q.1
  omega
theorem ze1_repl {y z : Str} {j k : Nat} {c0 c1 : Pos} (h : ZE X a σ H fun v H1 => ∃ x, v = .str x ∧ x.length + (x.length + 1) * z.length ≤ 16777216 ∧ Q (.str (Txt.replace x y z)) H1) (hyz : (y == z) = false := by decide)
    (hst : starEach [.Constant (.str y) j c0, .Constant (.str z) k c1] X.env = [(false, eval (.Constant (.str y) j c0) X.env), (false, eval (.Constant (.str z) k c1) X.env)] := by rfl)
    (hbase : attributeBase a "replace" X.env (eval a X.env) = eval a X.env := by rfl) (hline : (apos.endLine == pos.line) = true := by rfl) :
    ZE1 X (.Call (.Attribute a "replace" apos) [.Constant (.str y) j c0, .Constant (.str z) k c1] [] pos) σ H Q :=
  ⟨fun pins s h0 I => CwR.pet_replC (to := fun σ H Q => ZE X a σ H Q) pe_we hyz hst hbase hline pins s σ H Q h0 I h⟩
/-! ### names within a block -/
theorem b_name {N : List Str} {M : Nat} {sc : Scope} {x : Str} {i : Nat} {v : V} (S : NOk N M sc) (hN : X.N = N) (at_ : At N σ x i v) (hv : Vis X.env.scope x) (hd : (x == ("__debug__" : Str)) = false) (hcd : (x == ("__classdict__" : Str)) = false) (q : Q v H) : ZE X (.Name x pos) σ H Q :=
  ze_var i (by rw [hN]; exact at_.get.1) at_.get.2 q hv hd hcd
theorem b_gname {Q : St → Hp → Prop} {N : List Str} {M : Nat} {sc : Scope} {x : Str} {i : Nat} {v : V} (S : NOk N M sc) (hN : X.N = N) (sa : SetAt N σ x i v σ') (hx : Loc X.env.scope x) (hf : X.fn x = true ∨ X.env.scope.names.lookup x = some .local) (q : Q σ' H) : ZG X (.Name x pos) v σ H Q :=
  zg_name i (by rw [hN]; exact S.nd) (by rw [hN]; exact sa.get.1) (by rw [sa.get.2]; exact q) hx hf
end
section
variable {X : Cx} {elt tg iter c : Expr} {scope : Scope} {own : List (Str × Nat)} {pos : Pos} {σ : St} {H : Hp} {Q : VK}
/-- [elt for tg in range(lo, hi) if c] -/
theorem ze_lcR2i {e b : Expr} {p : Pos} {rpos : Pos} (hc : X.calm = true) (hN : X.N.Nodup) (ok : BlkOk X.N X.env.scope scope own) (hm : X.mg "range" = none)
    (h : ZA X [e, b] σ H fun vs H1 => ∃ lo j : Int, vs = [.int lo, .int j] ∧ (-(2 ^ 62) ≤ lo ∧ lo < 2 ^ 62 ∧ -(2 ^ 62) ≤ j ∧ j < 2 ^ 62) ∧ ∀ D, NoA H1 D → ∃ Pv : Nat → Hp → Prop, Pv 0 (upd H1 D (.lst [])) ∧
      (∀ (i : Nat) H, i < (j - lo).toNat → Pv i H → gBlk X scope tg (.int (lo + i)) (wipe σ (own.map (·.2))) H fun σ2 H2 => wipe σ2 (own.map (·.2)) = wipe σ (own.map (·.2)) ∧ tBlk X scope c σ2 H2 fun k H3 => if k = true then eBlk X scope elt σ2 H3 fun y H4 => ∃ acc, H4 D = some (.lst acc) ∧ acc.length < sizeLine ∧ Pv (i + 1) (upd H4 D (.lst (acc ++ [y]))) else Pv (i + 1) H3) ∧
      ∀ H, Pv (j - lo).toNat H → Q (.ref D) H)
    (hg : Gl X "range" := by rfl) (hst : starEach [e, b] X.env = [(false, eval e X.env), (false, eval b X.env)] := by rfl) (hst2 : starEach [b] X.env = [(false, eval b X.env)] := by rfl) (hs : ∀ x, foldedSetIterable (.Call (.Name "range" p) [e, b] [] rpos) X.env x = pure x := by intro _; rfl) :
    ZE X (.ListComp elt [⟨tg, .Call (.Name "range" p) [e, b] [] rpos, [c], 0⟩] scope pos) σ H Q := by
  refine (pe_lc (tt := tBlk X scope c) hc hN (pi_range2 (tg := tg) hg hm pa_wa hst hst2) ok pg_blk (fun s H C cl fp => pts_one (pt_blk s H C cl fp)) pe_blk hs).w ?_
  refine ⟨fun ps pins s I => thn (h.run ps pins s I) fun u s1 hh => ?_⟩
  obtain ⟨vs, H1, I1, r1, lo, j, ex, l1, k⟩ := hh
  refine ⟨vs, H1, I1, r1, lo, j, ex, l1, fun D hD => ?_⟩
  obtain ⟨Pv, h0, hs', hd⟩ := k D ⟨hD⟩
  exact lc_range (lo := lo) (g := gBlk X scope tg) (te := eBlk X scope elt) (tt := tBlk X scope c) Pv h0 (fun i H hx hp => hs' i _ hx hp) hd
end
section
variable {X : Cx} {H : Hp} {Q : VK} {z z2 : Str} {p : Addr} {xs : List V}
theorem mw_split (hz2 : (z2.length == 0) = false) (hz : z.length + 2 ≤ sizeLine) (h : ∀ p, NoA H p → Q (.ref p) (upd H p (.lst ((Txt.split z z2).map V.str)))) : MtW X "str.split" (.str z) [.str z2] H Q := MtR.w mt_split ⟨z, z2, rfl, rfl, hz2, hz, fun p n => h p ⟨n⟩⟩
theorem ow_inS {l : List Str} (hs : SqL X.K H p (l.map V.str) ∨ SqT X.K H p (l.map V.str)) (h : Q (.bl (decide (z ∈ l))) H) : OpW X (compareOp .In) (.str z) (.ref p) H Q := ow_in hs rfl (by simp [List.all_map, flatV]) (by rw [inV_str]; exact h)
theorem ow_notinS {l : List Str} (hs : SqL X.K H p (l.map V.str) ∨ SqT X.K H p (l.map V.str)) (h : Q (.bl (!decide (z ∈ l))) H) : OpW X (compareOp .NotIn) (.str z) (.ref p) H Q := ow_notin hs rfl (by simp [List.all_map, flatV]) (by rw [inV_str]; exact h)
end
end L2
namespace L2
open PySem PySem.Spec PyProof.Rows
theorem xw_lstP {X : Cx} {H : Hp} {Q : VK} {p : Addr} {xs : List V} {i : Int} {P : V → Prop} (hs : SqL X.K H p xs) (h0 : 0 ≤ i) (h1 : i < xs.length) (hp : ∀ v ∈ xs, P v) (h : ∀ v, P v → Q v H) : IxW X (.ref p) (.int i) H Q := by
  obtain ⟨x, hx, hx2⟩ := atI_lt h0 h1
  exact xw_lst hs hx2 (h x (hp x (List.mem_of_getElem? hx)))
theorem All.nil {P : V → Prop} : ∀ v ∈ ([] : List V), P v := fun v h => by cases h
theorem All.cons {P : V → Prop} {a : V} {l : List V} (h : P a) (t : ∀ v ∈ l, P v) : ∀ v ∈ a :: l, P v := fun v hv => by
  rcases List.mem_cons.mp hv with rfl | hv
  · exact h
  · exact t v hv
theorem All.app {P : V → Prop} {a l : List V} (h : ∀ v ∈ a, P v) (t : ∀ v ∈ l, P v) : ∀ v ∈ a ++ l, P v := fun v hv => (List.mem_append.mp hv).elim (h v) (t v)
end L2
namespace L2
open PySem PySem.Spec PyProof.Rows
theorem ow_eqD {X : Cx} {H : Hp} {Q : VK} {x y : V} {d e : PyData} {r : Bool} (hu : X.A.units + 64 < cLine) (hx : Dp X.K H x d) (hy : Dp X.K H y e) (h1 : SeqAt.shaped d = true) (h2 : SeqAt.shaped e = true) (hr : PyData.eqv d e = r) (h : Q (.bl r) H) : OpW X (compareOp .Eq) x y H Q :=
  (op_eqD hu).w ⟨d, e, hx, hy, h1, h2, by rw [hr]; exact h⟩
theorem Room.u64 {k : Nat} {A : Around} (h : Room k A) : A.units + 64 < cLine := by have := h.un; omega
theorem zss_cut {X : Cx} {st : Stmt} {rest : List Stmt} {nx bk ct : NX} {rt : VK} {σ : St} {H : Hp} (Mid : NX) (h1 : ZS X st Mid rt bk ct σ H) (h2 : ∀ σ' H', Mid σ' H' → ZSs X rest nx rt bk ct σ' H') : ZSs X (st :: rest) nx rt bk ct σ H := by
  refine zss_cons ⟨fun pins s I => wpAny_mono (h1.run pins s I) (fun fl s' hs => ?_) fun _ _ z => z⟩
  cases fl with
  | next =>
    obtain ⟨σ', H', J, q⟩ := hs
    exact ⟨σ', H', J, h2 σ' H' q⟩
  | ret u => exact hs
  | brk => exact hs
  | cont => exact hs
end L2

namespace Law
open PySem PySem.Spec PyProof.Rows L2

/-! One step by the syntax of the goal ("z"); as many as go by themselves ("zz"); with both ways of a test ("za"). The carrier is the word «fail» with a text. -/
local macro_rules | `(tactic| fail "at") => `(tactic| with_reducible (repeat (first | exact At.here | apply At.there)))
local macro_rules | `(tactic| fail "sat") => `(tactic| with_reducible (repeat (first | exact SetAt.here | apply SetAt.there)))
local macro_rules | `(tactic| fail "ztk") => `(tactic| first | exact Trk.put | exact Trk.of (by assumption) | exact Trk.src (by assumption) | (refine Trk.up ?_; fail "ztk") | (refine Trk.same (by assumption) ?_; fail "ztk"))
local macro_rules | `(tactic| fail "zne") => `(tactic| first | assumption | exact Ne.symm (by assumption) | (refine Trk.ne ?_ (by assumption); fail "ztk") | (refine Ne.symm (Trk.ne ?_ (by assumption)); fail "ztk"))
local macro_rules | `(tactic| fail "zh") => `(tactic| first | assumption | exact upd_same | (refine' Eq.trans (upd_ne ?hne) ?_; (case hne => fail "zne"); fail "zh") | (refine Same.get (by assumption) ?_; fail "zh"))
local macro_rules | `(tactic| fail "zle") => `(tactic| first | exact Nat.le_of_ble_eq_true rfl | fail "zside")
local macro_rules | `(tactic| fail "zno") => `(tactic| first | assumption | exact NoA.e (by assumption) | (refine NoA.free ?_ (by assumption); fail "zsm"))
local macro_rules | `(tactic| fail "zsm") => `(tactic| first | assumption | exact Same.refl _ | (refine Same.put ?_ ?_; (fail "zsm"); (fail "zno")) | (refine Same.new ?_ ?_; (fail "zsm"); (fail "zno")) | (refine Same.trans ?_ (by assumption); fail "zsm"))
local macro_rules | `(tactic| fail "zty") => `(tactic| first | exact .base (.int _) | exact .base (.bl _) | exact .base (.str _) | exact .base .non | (refine .base (.lst ?_); fail "zh") | (refine .base (.tup ?_); fail "zh") | assumption)
local macro_rules | `(tactic| fail "zkb") => `(tactic| first | exact (show kitB _ _ = some true by decide +kernel) | exact (show kitB _ _ = some false by decide +kernel))
local macro_rules | `(tactic| fail "zq") => `(tactic| first | (refine' Or.inl (SqL.of ?hp); (case hp => fail "zh")) | (refine' Or.inr (SqT.of ?hp); (case hp => fail "zh")) | exact Or.inr (by assumption) | exact Or.inl (by assumption) | exact Or.inl (Same.seq (by assumption) (by assumption)) | (refine' Or.inr ((?f : ∀ H', SqT _ H' _ _) _); (case f => assumption)))
local macro_rules | `(tactic| fail "zside") => `(tactic| first | assumption | omega | decide)
local macro_rules | `(tactic| fail "zx") => `(tactic| first
  | (refine' xw_lst (SqL.of ?hp) ?hi ?_; (case hp => fail "zh"); (case hi => rfl)) | (refine' xw_tup (SqT.of ?hp) ?hi ?_; (case hp => fail "zh"); (case hi => rfl)))
local macro_rules | `(tactic| fail "zS") => `(tactic| first
  | (with_reducible refine zs_if ?_) | (with_reducible refine zs_ret ?_)
  | ((with_reducible refine' s_set ‹NOk _ _ _› ?hN ?hf ?k ?hs); (case hN => exact ⟨rfl, rfl⟩); (case hf => rfl); (case hs => rfl))
  | ((with_reducible refine' s_expr ?k ?hs); (case hs => rfl))
  | ((with_reducible refine' s_attrS ?k ?hs); (case hs => rfl))
  | ((with_reducible refine' s_asg ?k ?hs ?hw ?h1); (case hs => rfl); (case hw => rfl); (case h1 => rfl))
  | ((with_reducible refine' s_raise ?c ‹Room _ _› ?hX ?hc ?k ?hg ?hdb ?he ?hpl); (case c => (with_reducible assumption)); (case hX => exact ⟨rfl, rfl, rfl, rfl, rfl, rfl⟩); (case hc => rfl); (case hg => rfl); (case hdb => decide); (case he => rfl); (case hpl => rfl))
  | (with_reducible refine zs_pass ?_) | (with_reducible refine zs_retN ?_) | (with_reducible refine zs_break ?_) | (with_reducible refine zs_continue ?_))
local macro_rules | `(tactic| fail "zbf") => `(tactic| with_reducible first | exact BFn.len | exact BFn.abs | exact BFn.isi | exact BFn.max | exact BFn.min | exact BFn.dm)
local macro_rules | `(tactic| fail "zbt") => `(tactic| with_reducible first | exact BTy.int | exact BTy.boo | exact BTy.str | exact BTy.tup | exact BTy.lst | exact BTy.ve)
local macro_rules | `(tactic| fail "zbm") => `(tactic| with_reducible first | exact BM.startswith | exact BM.upper | exact BM.index | exact BM.append | exact BM.join | exact BM.lower | exact BM.strip | exact BM.find | exact BM.count | exact BM.split | exact BM.endswith | exact BM.isdigit | exact BM.isalpha | exact BM.partition | exact BM.rstrip | exact BM.lstrip | exact BM.isspace | exact BM.isalnum)
local macro_rules | `(tactic| fail "zM") => `(tactic| first
  | ((with_reducible refine' s_bm ?f ?k ?hb ?hl ?hfew ?hs ?hpl); (case f => fail "zbm"); (case hb => rfl); (case hl => rfl); (case hfew => rfl); (case hs => rfl); (case hpl => rfl))
  | ((with_reducible refine' s_bm0 ?f ?k ?hb ?hl); (case f => fail "zbm"); (case hb => rfl); (case hl => rfl)))
local macro_rules | `(tactic| fail "zC") => `(tactic| first
  | ((with_reducible refine' s_callB ?f ‹Blt _› ?hB ?k ?hg ?he ?hpl); (case f => fail "zbf"); (case hB => rfl); (case hg => rfl); (case he => rfl); (case hpl => rfl))
  | ((with_reducible refine' s_callT ?f ‹Blt _› ?hB ?k ?hg ?he ?hpl); (case f => fail "zbt"); (case hB => rfl); (case hg => rfl); (case he => rfl); (case hpl => rfl)))
local macro_rules | `(tactic| fail "zD") => `(tactic| first
  | ((with_reducible refine' s_call ?c ‹Room _ _› ?hk ?hX ?k ?hg ?hdb ?he ?hpl); (case c => (with_reducible assumption)); (case hk => first | decide | exact Nat.le_refl _ | omega); (case hX => exact ⟨rfl, rfl, rfl, rfl, rfl, rfl⟩); (case hg => rfl); (case hdb => decide); (case he => rfl); (case hpl => rfl))
  | ((with_reducible refine' s_callH ?c (by assumption) (by assumption) ‹Room _ _› ?hk ?hX ?k ?hg ?hdb ?he ?hpl); (case c => (with_reducible assumption)); (case hk => first | decide | exact Nat.le_refl _ | omega); (case hX => exact ⟨rfl, rfl, rfl, rfl, rfl, rfl⟩); (case hg => rfl); (case hdb => decide); (case he => rfl); (case hpl => rfl))
  | ((with_reducible refine' s_call0 ?c ‹Room _ _› ?hk ?hX ?k ?hg ?hdb); (case c => (with_reducible assumption)); (case hk => first | decide | exact Nat.le_refl _ | omega); (case hX => exact ⟨rfl, rfl, rfl, rfl, rfl, rfl⟩); (case hg => rfl); (case hdb => decide)))
local macro_rules | `(tactic| fail "zn") => `(tactic| first
  | ((with_reducible refine' s_name ‹NOk _ _ _› ?ha ?hi ?hN ?k); (case ha => fail "at"); (case hi => decide); (case hN => exact ⟨rfl, rfl⟩))
  | ((with_reducible refine' s_bty ?f ‹Blt _› ?hB ?hg ?k); (case f => fail "zbt"); (case hB => rfl); (case hg => rfl))
  | ((with_reducible refine' s_gref ?hm ?hB ?hg ?hd ?k); (case hm => (with_reducible assumption)); (case hB => rfl); (case hg => rfl); (case hd => decide))
  | ((with_reducible refine' b_name ‹NOk _ _ _› ?hN ?ha ?hv ?hd ?hcd ?k); (case hN => rfl); (case ha => fail "at"); (case hv => first | exact Or.inl rfl | exact Or.inr (Or.inl rfl) | exact Or.inr (Or.inr rfl)); (case hd => decide); (case hcd => decide)))
local macro_rules | `(tactic| fail "zE") => `(tactic| first
  | ((with_reducible show ZE _ (Expr.Name _ _) _ _ _); fail "zn")
  | (with_reducible refine ze_int ?_) | (with_reducible refine ze_str ?_)
  | (with_reducible refine ze_op ?_)
  | ((with_reducible refine ze_slice ?_))
  | ((with_reducible refine' s_sub ?k ?hs); (case hs => exact fun _ _ => rfl))
  | ((with_reducible refine' ze_cmp ?hm ?k); (case hm => first | exact nomark _ | rfl))
  | ((with_reducible refine' s_attr ?k ?hb); (case hb => rfl))
  | ((with_reducible show ZE _ (Expr.Call (Expr.Name _ _) _ _ _) _ _ _); first | fail "zC" | fail "zD")
  | ((with_reducible show ZE _ (Expr.Call (Expr.Attribute _ _ _) _ _ _) _ _ _); fail "zM")
  | (with_reducible refine ze_bl ?_) | (with_reducible refine ze_non ?_)
  | (with_reducible refine ze_notV ?_) | (with_reducible refine ze_un ?_) | (with_reducible refine ze_and ?_) | (with_reducible refine ze_or ?_) | (with_reducible refine ze_and1 ?_) | (with_reducible refine ze_if ?_)
  | ((with_reducible refine' ze_chain ?hm ?k); (case hm => rfl))
  | (with_reducible refine ze_lst ?_) | (with_reducible refine ze_tup ?_))
local macro_rules | `(tactic| fail "zT") => `(tactic| first
  | ((with_reducible refine' zt_cmp ?hm ?k); (case hm => first | exact nomark _ | rfl))
  | (with_reducible refine zt_not ?_) | (with_reducible refine zt_and ?_) | (with_reducible refine zt_or ?_)
  | ((with_reducible refine' zt_chain ?hm ?k); (case hm => rfl))
  | ((with_reducible refine' s_val ?k ?he); (case he => (intro _; rfl))))
local macro_rules | `(tactic| fail "zdp") => `(tactic| first | exact Dp.int _ | exact Dp.str _ | exact Dp.bl _ | exact Dp.non | (refine' Dp.lst (SqL.of ?hh) ?kk; (case hh => fail "zh"); (case kk => fail "zdpa")) | (refine' Dp.tup (SqT.of ?hh) ?kk; (case hh => fail "zh"); (case kk => fail "zdpa")))
local macro_rules | `(tactic| fail "zdpa") => `(tactic| first | exact DpAll.nil | (refine' DpAll.cons ?hh ?kk; (case hh => fail "zdp"); (case kk => fail "zdpa")))
local macro_rules | `(tactic| fail "zO") => `(tactic| first
  | (with_reducible refine ow_add ?_) | (with_reducible refine ow_sub ?_) | (with_reducible refine ow_eqi ?_) | (with_reducible refine ow_nei ?_) | (with_reducible refine ow_lt ?_) | (with_reducible refine ow_le ?_) | (with_reducible refine ow_gt ?_) | (with_reducible refine ow_ge ?_)
  | (with_reducible refine ow_eqs ?_) | (with_reducible refine ow_nes ?_) | (with_reducible refine ow_isN ?_) | (with_reducible refine ow_notN ?_) | (with_reducible refine ow_eqb ?_) | (with_reducible refine ow_neb ?_)
  | ((with_reducible refine' ow_eqD ?hu ?hx ?hy ?h1 ?h2 ?hr ?k); (case hu => (have hu := Room.u64 (‹Room _ _›); exact hu)); (case hx => fail "zdp"); (case hy => fail "zdp"); (case h1 => rfl); (case h2 => rfl); (case hr => first | exact (show PyData.eqv _ _ = true from rfl) | exact (show PyData.eqv _ _ = false from rfl)))
  | ((with_reducible refine' ow_addl ?h1 ?h2 ?hc (intro_no fun _ _ => ?k)); (case h1 => fail "zh"); (case h2 => fail "zh"); (first | (case hc => fail "zle") | skip))
  | ((with_reducible refine' ow_adds ?hc ?k); (first | (case hc => fail "zle") | skip))
  | ((with_reducible refine' ow_in ?hs ?hx ?ha ?k); (case hs => fail "zq"); (case hx => rfl); (case ha => rfl)) | ((with_reducible refine' ow_notin ?hs ?hx ?ha ?k); (case hs => fail "zq"); (case hx => rfl); (case ha => rfl))
  | ((with_reducible refine' ow_mod ?hc ?k); (case hc => fail "zside")) | ((with_reducible refine' ow_fdiv ?hc ?k); (case hc => exact ⟨by fail "zside", by fail "zside"⟩))
  | ((with_reducible refine' ow_mul ?hc ?k); (case hc => first | exact .inr ⟨by fail "zside", by fail "zside"⟩ | exact .inl ⟨by fail "zside", by fail "zside"⟩))
  | ((with_reducible refine' ow_pow ?hc ?k); (case hc => exact ⟨by fail "zside", by fail "zside", by fail "zside"⟩)))
local macro_rules | `(tactic| fail "z") => `(tactic| first
  | ((with_reducible show ZE _ _ _ _ _); fail "zE")
  | ((with_reducible show OpW _ _ _ _ _ _); fail "zO")
  | (with_reducible refine ⟨_, rfl, ?_⟩)
  | ((with_reducible refine' s_setAt ?sa ?hi ?k); (case sa => fail "sat"); (case hi => decide))
  | ((with_reducible show ZSs _ _ _ _ _ _ _ _); with_reducible (first | refine zss_one ?_ | refine zss_cons ?_ | refine zss_nil ?_))
  | ((with_reducible show ZS _ _ _ _ _ _ _ _); fail "zS")
  | ((with_reducible show ZT _ _ _ _ _); fail "zT")
  | ((with_reducible show ZW _ _ _ _ _); with_reducible (first | refine zw_and ?_ | refine zw_or ?_ | refine zw_and1 ?_ | refine zw_or1 ?_))
  | ((with_reducible show ZA _ _ _ _ _); first | ((with_reducible refine' s_cons ?k ?hs); (case hs => rfl)) | (with_reducible refine za_nil ?_))
  | ((with_reducible show CallW _ _ _ _ _); first | ((with_reducible refine' cw_isx (by assumption) (by assumption) ?hc ?T ?hd ?hv ?hk ?_); (case hc => rfl); (case T => assumption); (case hd => exact Or.inr ⟨_, _, rfl, by fail "zh"⟩); (case hv => first | exact .own _ | exact .ty _); (case hk => assumption)) | ((with_reducible refine' cw_isb ?hx ?hk ?_); (case hx => fail "zty"); (case hk => fail "zkb")) | (with_reducible refine cw_int ?_) | ((with_reducible refine' cw_tuple ?hs (intro_no fun _ _ => ?_)); (case hs => first | exact SqL.of (by fail "zh") | assumption)) | ((with_reducible refine' cw_divmod ?hc (intro_no fun _ _ => ?_)); (case hc => exact ⟨by fail "zside", by fail "zside"⟩)) | ((with_reducible refine' cw_list ?hs (intro_no fun _ _ => ?_)); (case hs => fail "zq")) | (with_reducible refine cw_abs ?_) | (with_reducible refine cw_intb ?_) | ((with_reducible refine' cw_lenq ?hs ?k); (case hs => fail "zq")) | ((with_reducible refine' cw_lens ?hs ?k); (first | (case hs => fail "zle") | skip)))
  | ((with_reducible show IxW _ _ _ _ _); fail "zx")
  | ((with_reducible show MtW _ _ _ _ _ _); first | (with_reducible refine mw_startswith ?_) | (with_reducible refine mw_endswith ?_) | (with_reducible refine mw_find ?_) | (with_reducible refine mw_count ?_) | ((with_reducible refine' mw_upper ?hz ?k); (first | (case hz => fail "zle") | skip)) | ((with_reducible refine' mw_lower ?hz ?k); (first | (case hz => fail "zle") | skip)) | ((with_reducible refine' mw_split ?hz2 ?hz (fun _ _ => ?k)); (case hz2 => decide); (first | (case hz => fail "zle") | skip)) | ((with_reducible refine' mw_append ?hs ?hz ?k); (case hs => fail "zh"); (first | (case hz => fail "zside") | skip)))
  | ((with_reducible show tyV _ _ _ _ ∧ _); refine And.intro (by first | exact rfl | exact Or.inl ⟨rfl, _, SqL.of (by fail "zh")⟩ | exact Or.inl ⟨rfl, _, by assumption⟩) ?_)
  | ((with_reducible show _ ≤ sizeLine ∧ _); refine And.intro (by fail "zle") ?_)
  | ((with_reducible show ∀ p, _ = none → _); refine intro_no (fun _ _ => ?_))
  | ((with_reducible show List.length _ = List.length _ ∧ _ ∧ _); refine ⟨rfl, Nat.le_of_ble_eq_true rfl, ?_⟩)
  | (with_reducible refine xw_def ?_)
  | ((with_reducible show ZO _ _ _ _ _); with_reducible (first | refine zo_none ?_ | refine zo_some ?_))
  | ((with_reducible show SlW _ _ _ _ _ _); first | ((with_reducible refine' slw_str ?hz ?k); (first | (case hz => fail "zle") | skip)) | ((with_reducible refine' slw_lst ?hs (intro_no fun _ _ => ?k)); (case hs => first | exact SqL.of (by fail "zh") | assumption)))
  | fail "zP"
  | ((with_reducible show SetW _ _ _ _ _ _); refine' sw_lst ?hp ?hi ?_; (case hp => fail "zh"); (case hi => rfl))
  | ((with_reducible show ZG _ (Expr.Tuple _ _ _) _ _ _ _); refine zg_tup rfl ?_; refine ⟨_, _, rfl, SqT.of (by fail "zh"), rfl, ?_⟩)
  | ((with_reducible show ZG _ _ _ _ _ _); first | ((with_reducible refine' s_gsub ?k ?ha); (case ha => (intro _; rfl))) | ((with_reducible refine' s_gname ‹NOk _ _ _› ?sa ?hi ?hN ?hf ?k); (case sa => fail "sat"); (case hi => decide); (case hN => exact ⟨rfl, rfl⟩); (case hf => rfl)) | ((with_reducible refine' b_gname ‹NOk _ _ _› ?hN ?sa ?hx ?hf ?k); (case hN => rfl); (case sa => fail "sat"); (case hx => first | exact Or.inl rfl | exact Or.inr rfl); (case hf => first | exact .inl rfl | exact .inr rfl)))
  | ((with_reducible show ZA1 _ _ _ _ _); first | ((with_reducible refine' za1_cons ?k ?hs); (case hs => rfl)) | (with_reducible refine za1_nil ?_))
  | ((with_reducible show ZE1 _ _ _ _ _); first | refine ze1_repl ?_ | (with_reducible refine ze1_of ?_))
  | ((with_reducible show _ ≤ 16777216 ∧ _); refine And.intro ?_ ?_)
  | ((with_reducible show AtW _ _ _ _ _); first
      | ((with_reducible refine' aw_xd (by assumption) (by assumption) ?hc ?hd ?T ?hno ?ea ?l ?q); (case hc => rfl); (case hd => rfl); (case T => assumption); (case hno => assumption); (case ea => fail "zh"); (case l => rfl)))
  | ((with_reducible show UnW _ _ _ _ _); refine uw_neg ?_)
  | (with_reducible refine zgs_nil ?_) | refine zgs_cons ?_)
local macro_rules | `(tactic| fail "zbk") => `(tactic| simp only [reduceCtorEq, decide_true, decide_false, Bool.not_true, Bool.not_false, Bool.true_eq_false, Bool.false_eq_true, not_false_eq_true, not_true_eq_false])
local macro_rules | `(tactic| fail "zi") => `(tactic| first
  | ((with_reducible refine' iteP ?h ?_); (case h => fail "zbk")) | ((with_reducible refine' iteN ?h ?_); (case h => fail "zbk"))
  | (with_reducible refine iteT ?_) | (with_reducible refine iteF ?_) | (with_reducible refine zite_d (fun hc => ?_) (fun hc => ?_)) | (with_reducible refine zite_n (fun hc => ?_) (fun hc => ?_)) | (with_reducible refine zite_nb (fun hc => ?_) (fun hc => ?_)) | (with_reducible refine zite_b (fun hc => ?_) (fun hc => ?_)))
local macro_rules | `(tactic| fail "zz") => `(tactic| repeat (first | fail "z" | (with_reducible refine iteT ?_) | (with_reducible refine iteF ?_)))
local macro_rules | `(tactic| fail "za") => `(tactic| repeat' (first | fail "z" | fail "zi"))
local macro_rules | `(tactic| fail "z0") => `(tactic| ((first | refine zss_one ?_ | refine zss_cons ?_); fail "za"))
local macro_rules | `(tactic| fail "zsrc") => `(tactic| first | assumption | (refine Src.same (by assumption) ?_; fail "zsrc") | (refine Src.same (Same.new (Same.refl _) (NoA.e (by assumption))) ?_; fail "zsrc") | (refine Src.same ?_ (by assumption); fail "zsm"))
local macro_rules | `(tactic| fail "zP") => `(tactic| (with_reducible refine' draw_do ?h1 ?h2 ?h3 (fun _ _ _ => ?h)); (first | (case h1 => fail "zside") | skip); (first | (case h2 => fail "zside") | skip); (case h3 => fail "zsrc"))
local macro_rules | `(tactic| fail "zsc") => `(tactic| with_reducible first | exact Sc.mapS | exact Sc.mapI | exact Sc.nil | (refine Sc.app ?_ ?_ <;> fail "zsc") | (refine Sc.cons (by first | exact .bl _ | exact .str _ | exact .int _ | exact .non) ?_; fail "zsc"))
variable {P : Program} {w : World} {K : PySem.W.Frag} {mg : Str → Option Value} {base : Heap}

def topS (i : Nat) : Stmt := PySem.Challenge.pw_lostpart_k10_whole_reach.main.body.getD i (.Pass ⟨0, 0, 0, 0⟩)
abbrev S_BadBase___init__ : Stmt := inClass (topS 2) 0
abbrev N_BadBase___init__ : List Str := ["self", "base"]
abbrev S_BadMode___init__ : Stmt := inClass (topS 3) 0
abbrev N_BadMode___init__ : List Str := ["self", "mode"]
abbrev S_check_base : Stmt := topS 5
abbrev N_check_base : List Str := ["base"]
theorem sc_check_base : FnScope ["base"] ["base"] (defScope S_check_base) := ⟨rfl, rfl, rfl, by decide +kernel, rfl, by decide +kernel, by decide +kernel⟩
theorem nk_check_base : NOk ["base"] 1 (defScope S_check_base) := ⟨sc_check_base.nd, by decide +kernel⟩
abbrev S_check_mode : Stmt := topS 9
abbrev N_check_mode : List Str := ["mode"]
theorem sc_check_mode : FnScope ["mode"] ["mode"] (defScope S_check_mode) := ⟨rfl, rfl, rfl, by decide +kernel, rfl, by decide +kernel, by decide +kernel⟩
theorem nk_check_mode : NOk ["mode"] 1 (defScope S_check_mode) := ⟨sc_check_mode.nd, by decide +kernel⟩
abbrev S_goes_up : Stmt := topS 10
abbrev N_goes_up : List Str := ["mode", "positive"]
theorem sc_goes_up : FnScope ["mode", "positive"] ["mode", "positive"] (defScope S_goes_up) := ⟨rfl, rfl, rfl, by decide +kernel, rfl, by decide +kernel, by decide +kernel⟩
theorem nk_goes_up : NOk ["mode", "positive"] 2 (defScope S_goes_up) := ⟨sc_goes_up.nd, by decide +kernel⟩
abbrev S_direction : Stmt := topS 11
abbrev N_direction : List Str := ["mode", "sign"]
theorem sc_direction : FnScope ["mode", "sign"] ["mode", "sign"] (defScope S_direction) := ⟨rfl, rfl, rfl, by decide +kernel, rfl, by decide +kernel, by decide +kernel⟩
theorem nk_direction : NOk ["mode", "sign"] 2 (defScope S_direction) := ⟨sc_direction.nd, by decide +kernel⟩
abbrev S_tie_goes_out : Stmt := topS 12
abbrev N_tie_goes_out : List Str := ["mode", "sign"]
theorem sc_tie_goes_out : FnScope ["mode", "sign"] ["mode", "sign"] (defScope S_tie_goes_out) := ⟨rfl, rfl, rfl, by decide +kernel, rfl, by decide +kernel, by decide +kernel⟩
theorem nk_tie_goes_out : NOk ["mode", "sign"] 2 (defScope S_tie_goes_out) := ⟨sc_tie_goes_out.nd, by decide +kernel⟩
abbrev S_reach : Stmt := topS 13
abbrev N_reach : List Str := ["mode", "base", "sign", "where"]
theorem sc_reach : FnScope ["mode", "base", "sign", "where"] ["mode", "base", "sign"] (defScope S_reach) := ⟨rfl, rfl, rfl, by decide +kernel, rfl, by decide +kernel, by decide +kernel⟩
theorem nk_reach : NOk ["mode", "base", "sign", "where"] 4 (defScope S_reach) := ⟨sc_reach.nd, by decide +kernel⟩
abbrev S_tie_goes_up : Stmt := topS 14
abbrev N_tie_goes_up : List Str := ["mode", "low", "positive"]
theorem sc_tie_goes_up : FnScope ["mode", "low", "positive"] ["mode", "low", "positive"] (defScope S_tie_goes_up) := ⟨rfl, rfl, rfl, by decide +kernel, rfl, by decide +kernel, by decide +kernel⟩
theorem nk_tie_goes_up : NOk ["mode", "low", "positive"] 3 (defScope S_tie_goes_up) := ⟨sc_tie_goes_up.nd, by decide +kernel⟩
abbrev S_round_quotient : Stmt := topS 15
abbrev N_round_quotient : List Str := ["numerator", "divisor", "mode", "low", "rest", "positive", "up"]
theorem sc_round_quotient : FnScope ["numerator", "divisor", "mode", "low", "rest", "positive", "up"] ["numerator", "divisor", "mode"] (defScope S_round_quotient) := ⟨rfl, rfl, rfl, by decide +kernel, rfl, by decide +kernel, by decide +kernel⟩
theorem nk_round_quotient : NOk ["numerator", "divisor", "mode", "low", "rest", "positive", "up"] 7 (defScope S_round_quotient) := ⟨sc_round_quotient.nd, by decide +kernel⟩
abbrev S__law_source : Stmt := topS 17
abbrev N__law_source : List Str := ["script", "cell"]
theorem sc__law_source : FnScope ["script", "cell"] ["script"] (defScope S__law_source) := ⟨rfl, rfl, rfl, by decide +kernel, rfl, by decide +kernel, by decide +kernel⟩
theorem nk__law_source : NOk ["script", "cell"] 1 (defScope S__law_source) := ⟨sc__law_source.nd, by decide +kernel⟩
abbrev S__law_draw : Stmt := topS 18
abbrev N__law_draw : List Str := ["source", "many", "cell", "size", "value", "mixed"]
theorem sc__law_draw : FnScope ["source", "many", "cell", "size", "value", "mixed"] ["source", "many"] (defScope S__law_draw) := ⟨rfl, rfl, rfl, by decide +kernel, rfl, by decide +kernel, by decide +kernel⟩
theorem nk__law_draw : NOk ["source", "many", "cell", "size", "value", "mixed"] 6 (defScope S__law_draw) := ⟨sc__law_draw.nd, by decide +kernel⟩
abbrev S__law_modes : Stmt := topS 19
abbrev N__law_modes : List Str := ["near"]
theorem sc__law_modes : FnScope ["near"] [] (defScope S__law_modes) := ⟨rfl, rfl, rfl, by decide +kernel, rfl, by decide +kernel, by decide +kernel⟩
theorem nk__law_modes : NOk ["near"] 1 (defScope S__law_modes) := ⟨sc__law_modes.nd, by decide +kernel⟩
abbrev S__law_mode : Stmt := topS 20
abbrev N__law_mode : List Str := ["source"]
theorem sc__law_mode : FnScope ["source"] ["source"] (defScope S__law_mode) := ⟨rfl, rfl, rfl, by decide +kernel, rfl, by decide +kernel, by decide +kernel⟩
theorem nk__law_mode : NOk ["source"] 1 (defScope S__law_mode) := ⟨sc__law_mode.nd, by decide +kernel⟩
abbrev S__law_base : Stmt := topS 21
abbrev N__law_base : List Str := ["source", "kind"]
theorem sc__law_base : FnScope ["source", "kind"] ["source"] (defScope S__law_base) := ⟨rfl, rfl, rfl, by decide +kernel, rfl, by decide +kernel, by decide +kernel⟩
theorem nk__law_base : NOk ["source", "kind"] 2 (defScope S__law_base) := ⟨sc__law_base.nd, by decide +kernel⟩
abbrev S__law_equal : Stmt := topS 22
abbrev N__law_equal : List Str := ["actual", "expected", "k"]
theorem sc__law_equal : FnScope ["actual", "expected", "k"] ["actual", "expected"] (defScope S__law_equal) := ⟨rfl, rfl, rfl, by decide +kernel, rfl, by decide +kernel, by decide +kernel⟩
theorem nk__law_equal : NOk ["actual", "expected", "k"] 3 (defScope S__law_equal) := ⟨sc__law_equal.nd, by decide +kernel⟩
abbrev S__law_big : Stmt := topS 23
abbrev N__law_big : List Str := ["source", "value", "k"]
theorem sc__law_big : FnScope ["source", "value", "k"] ["source"] (defScope S__law_big) := ⟨rfl, rfl, rfl, by decide +kernel, rfl, by decide +kernel, by decide +kernel⟩
theorem nk__law_big : NOk ["source", "value", "k"] 3 (defScope S__law_big) := ⟨sc__law_big.nd, by decide +kernel⟩
abbrev S__law_odd_mode : Stmt := topS 24
abbrev N__law_odd_mode : List Str := ["source", "mode", "at", "kind"]
theorem sc__law_odd_mode : FnScope ["source", "mode", "at", "kind"] ["source"] (defScope S__law_odd_mode) := ⟨rfl, rfl, rfl, by decide +kernel, rfl, by decide +kernel, by decide +kernel⟩
theorem nk__law_odd_mode : NOk ["source", "mode", "at", "kind"] 4 (defScope S__law_odd_mode) := ⟨sc__law_odd_mode.nd, by decide +kernel⟩
abbrev S__law_chosen : Stmt := topS 25
abbrev N__law_chosen : List Str := ["numerator", "divisor", "mode", "result", "off", "out"]
theorem sc__law_chosen : FnScope ["numerator", "divisor", "mode", "result", "off", "out"] ["numerator", "divisor", "mode", "result"] (defScope S__law_chosen) := ⟨rfl, rfl, rfl, by decide +kernel, rfl, by decide +kernel, by decide +kernel⟩
theorem nk__law_chosen : NOk ["numerator", "divisor", "mode", "result", "off", "out"] 6 (defScope S__law_chosen) := ⟨sc__law_chosen.nd, by decide +kernel⟩
abbrev S__law_bad_base : Stmt := topS 26
abbrev N__law_bad_base : List Str := ["source", "kind"]
theorem sc__law_bad_base : FnScope ["source", "kind"] ["source"] (defScope S__law_bad_base) := ⟨rfl, rfl, rfl, by decide +kernel, rfl, by decide +kernel, by decide +kernel⟩
theorem nk__law_bad_base : NOk ["source", "kind"] 2 (defScope S__law_bad_base) := ⟨sc__law_bad_base.nd, by decide +kernel⟩
abbrev S__law_refusal : Stmt := topS 27
abbrev N__law_refusal : List Str := ["mode", "base", "sign", "e"]
theorem sc__law_refusal : FnScope ["mode", "base", "sign", "e"] ["mode", "base", "sign"] (defScope S__law_refusal) := ⟨rfl, rfl, rfl, by decide +kernel, rfl, by decide +kernel, by decide +kernel⟩
theorem nk__law_refusal : NOk ["mode", "base", "sign", "e"] 4 (defScope S__law_refusal) := ⟨sc__law_refusal.nd, by decide +kernel⟩
abbrev S__law_reached : Stmt := topS 28
abbrev N__law_reached : List Str := ["mode", "base", "sign", "whole", "most", "grown", "size", "result"]
theorem sc__law_reached : FnScope ["mode", "base", "sign", "whole", "most", "grown", "size", "result"] ["mode", "base", "sign", "whole"] (defScope S__law_reached) := ⟨rfl, rfl, rfl, by decide +kernel, rfl, by decide +kernel, by decide +kernel⟩
theorem nk__law_reached : NOk ["mode", "base", "sign", "whole", "most", "grown", "size", "result"] 8 (defScope S__law_reached) := ⟨sc__law_reached.nd, by decide +kernel⟩
abbrev S_law : Stmt := topS 29
abbrev N_law : List Str := ["script", "source", "base", "whole", "odd", "bad", "mode", "sign"]
theorem sc_law : FnScope ["script", "source", "base", "whole", "odd", "bad", "mode", "sign"] ["script"] (defScope S_law) := ⟨rfl, rfl, rfl, by decide +kernel, rfl, by decide +kernel, by decide +kernel⟩
theorem nk_law : NOk ["script", "source", "base", "whole", "odd", "bad", "mode", "sign"] 8 (defScope S_law) := ⟨sc_law.nd, by decide +kernel⟩
theorem ok_source {f : Addr} {fd : FuncData} (F : Fun K "_law_source" "_law_source" S__law_source f fd) (B : Blt mg) : FnOk P w K mg base (L2N.CX P w) 1 f fd ["script"] (spSrc K) := by
  have S := nk__law_source
  refine src_hide (F.okN sc__law_source (fun vs H Q E h => ?_) (fun cdv A outer s H vs Q E hr h => ?_)) (fun outer H s E e s' z => cxn_no z)
  · obtain ⟨a, ns, rfl, _⟩ := h; rfl
  · obtain ⟨a, ns, rfl, hs, hl, hQ⟩ := h
    show ZSs _ _ _ _ _ _ [some (.ref a), none] H
    refine zss_one (zs_ret (ze_lst ?_))
    fail "za"
    refine ze_lcL (own := [("cell", 1)]) rfl sc__law_source.nd (blkOk_by (show blkC ["script", "cell"] (defScope S__law_source) _ _ = true by decide +kernel)) ?_
    fail "z"
    refine ⟨a, _, rfl, hs, fun D hD => ⟨fun i H' => i ≤ ns.length ∧ H' = upd H D (.lst ((ns.map V.int).take i)), ⟨Nat.zero_le _, by simp⟩, fun i H' _ h => ?_, fun i x H' hx h => ?_, fun H' h => ?_⟩⟩
    · obtain ⟨_, rfl⟩ := h
      exact Same.seq (Same.new (Same.refl _) hD) hs
    · obtain ⟨hi, rfl⟩ := h
      obtain ⟨c, hc, rfl⟩ := map_get hx
      have hlt : i < ns.length := (List.getElem?_eq_some_iff.mp hc).1
      refine fun s1 H1 C cl fp => zg_name 1 sc__law_source.nd rfl ?_ (.inl rfl) (.inr rfl)
      refine ⟨rfl, fun s1 H1 C cl fp => ?_⟩
      refine zc_int B ?_
      refine za_cons (ze_var 1 rfl rfl (za_nil ?_))
      refine cw_int ?_
      refine ⟨_, upd_same, by rw [List.length_take, List.length_map]; have : ns.length ≤ 1000 := hl; have : sizeLine = 16777216 := sizeLine_eq; omega, by omega, ?_⟩
      rw [upd_upd, List.take_succ, hx]
      rfl
    · obtain ⟨_, rfl⟩ := h
      fail "za"
      rename_i p hp
      have np : p ≠ D := upd_no_ne hp.e
      refine hQ p D _ (upd_no hp.e) hD (Same.new (Same.new (Same.refl _) hD) hp.e) np upd_same ?_
      rw [upd_ne np.symm, upd_same, List.take_of_length_le (by rw [List.length_map]; exact Nat.le_refl _)]

theorem ok_draw {f : Addr} {fd : FuncData} (F : Fun K "_law_draw" "_law_draw" S__law_draw f fd) (B : Blt mg) : FnOk P w K mg base (L2N.CX P w) 1 f fd ["source", "many"] spDraw := by
  have S := nk__law_draw
  refine draw_hide (F.okN sc__law_draw (fun vs H Q E h => ?_) (fun cdv A outer s H vs Q E hr h => ?_)) (fun outer H s E e s' z => cxn_no z)
  · obtain ⟨p, q, many, i, x1, x2, x3, ns, rfl, _⟩ := h; rfl
  · obtain ⟨p, q, many, i, x1, x2, x3, ns, rfl, hm, hm2, hp, hi, hq, hl, hQ⟩ := h
    unfold srcL at hp hQ
    have npq : q ≠ p := fun e => by
      rw [e, hp] at hq
      have z := HO.lst.inj (Option.some.inj hq)
      have z2 := congrArg (fun l : List V => l[4]?) z
      simp only [List.getElem?_map] at z2
      cases e4 : ns[4]? <;> rw [e4] at z2 <;> simp at z2
    have fin : ∀ (H' : Hp) (v i' x1' x2' x3' : Int), H' = upd H p (.lst [.int i', .int x1', .int x2', .int x3', .ref q]) → 0 ≤ i' → Q (.int (v % many)) H' := fun H' v i' x1' x2' x3' e h => by
      rw [e]; exact hQ _ _ _ _ _ (Int.emod_nonneg _ (by omega)) (Int.emod_lt_of_pos _ hm) h
    show ZSs _ _ _ _ _ _ [some (.ref p), some (.int many), none, none, none, none] H
    refine zss_cons ?_
    fail "za"
    · have := hQ 0 i x1 x2 x3 (Int.le_refl _) hm hi
      rwa [upd_id hp] at this
    · rename_i h1 h2 h3
      obtain ⟨v, hv, hv2⟩ := atI_lt hi (show i < (ns.map V.int).length by omega)
      obtain ⟨c, hc, rfl⟩ := map_get hv
      refine xw_lst (SqL.of hq) hv2 ?_
      fail "za"
      all_goals exact fin _ _ _ _ _ _ (by simp only [upd_upd]; rfl) (by omega)
    all_goals exact fin _ _ _ _ _ _ (by first | rfl | (simp only [upd_upd]; rfl)) (by omega)

local macro_rules | `(tactic| fail "zty") => `(tactic| first | exact TyX.ofL (by assumption) | exact TyX.ofT (by assumption))
theorem ok_equal {f : Addr} {fd : FuncData} (F : Fun K "_law_equal" "_law_equal" S__law_equal f fd) (B : Blt mg) (gm : mg "_law_equal" = some (.ref f)) (kp : PySem.W.keepIn K (.ref f) = true) (hb : Binds K fd ["actual", "expected"] []) :
    ∀ n, FnOk P w K mg base (L2N.CX P w) (n + 1) f fd ["actual", "expected"] (spEq K n) := by
  have S := nk__law_equal
  intro n
  induction n with
  | zero =>
    refine F.okN sc__law_equal (fun vs H Q E h => ?_) (fun cdv A outer s H vs Q E hr h => ?_)
    · obtain ⟨x, y, rfl, _⟩ := h; rfl
    · obtain ⟨x, y, rfl, hd, hQ⟩ := h
      cases hd
      all_goals
        show ZSs _ _ _ _ _ _ [some _, some _, none] H
        fail "z0"
        all_goals first | (simp; exact hQ) | (simp_all; done)
  | succ n ih =>
    have c : Cal P w K mg base (n + 1) "_law_equal" (spEq K n) := ⟨f, fd, _, [], [], _, ih, gm, kp, hb, .nil, fun vs H Q E h => by rw [List.append_nil]; exact h⟩
    refine F.okN sc__law_equal (fun vs H Q E h => ?_) (fun cdv A outer s H vs Q E hr h => ?_)
    · obtain ⟨x, y, rfl, _⟩ := h; rfl
    · obtain ⟨x, y, rfl, hd, hQ⟩ := h
      cases hd with
      | non | bl | int | str =>
        show ZSs _ _ _ _ _ _ [some _, some _, none] H
        fail "z0"
        all_goals first | (simp; exact hQ) | (simp_all; done)
      | lst hx hy hz hl hh =>
        rename_i p q xs ys
        show ZSs _ _ _ _ _ _ [some _, some _, none] H
        fail "z0"
        all_goals try (exfalso; omega)
        refine zs_forR pass_def rfl B.range ?_
        fail "zz"
        rw [sizeLine_eq] at hz
        refine ⟨by omega, by omega, fun i σ H' => ∃ o, σ = [some (.ref p), some (.ref q), o] ∧ H' = H, ⟨_, rfl, rfl⟩, ?_, ?_⟩
        · rintro i σ H' hi ⟨o, rfl, rfl⟩
          have hi1 : i < xs.length := by omega
          have hi2 : i < ys.length := by omega
          fail "zz"
          refine xw_lst hx (atI_nat (List.getElem?_eq_getElem hi1)) ?_
          fail "zz"
          refine xw_lst hy (atI_nat (List.getElem?_eq_getElem hi2)) ?_
          fail "zz"
          refine equal_do (hh i _ _ (List.getElem?_eq_getElem hi1) (List.getElem?_eq_getElem hi2)) ?_
          fail "za"
          rfl
        · rintro σ H' ⟨o, rfl, rfl⟩
          fail "zz"
          exact hQ
      | tup hx hy hz hl hh =>
        rename_i p q xs ys
        show ZSs _ _ _ _ _ _ [some _, some _, none] H
        fail "z0"
        all_goals try (exfalso; omega)
        refine zs_forR pass_def rfl B.range ?_
        fail "zz"
        rw [sizeLine_eq] at hz
        refine ⟨by omega, by omega, fun i σ H' => ∃ o, σ = [some (.ref p), some (.ref q), o] ∧ H' = H, ⟨_, rfl, rfl⟩, ?_, ?_⟩
        · rintro i σ H' hi ⟨o, rfl, rfl⟩
          have hi1 : i < xs.length := by omega
          have hi2 : i < ys.length := by omega
          fail "zz"
          refine xw_tup hx (atI_nat (List.getElem?_eq_getElem hi1)) ?_
          fail "zz"
          refine xw_tup hy (atI_nat (List.getElem?_eq_getElem hi2)) ?_
          fail "zz"
          refine equal_do (hh i _ _ (List.getElem?_eq_getElem hi1) (List.getElem?_eq_getElem hi2)) ?_
          fail "za"
          rfl
        · rintro σ H' ⟨o, rfl, rfl⟩
          fail "zz"
          exact hQ
/-- the same of plain data, within an except suite -/
theorem ok_equalH {f : Addr} {fd : FuncData} (F : Fun K "_law_equal" "_law_equal" S__law_equal f fd) (B : Blt mg) : L2H.FnH P w K mg base (L2N.CX P w) 1 f fd ["actual", "expected"] spEqS := by
  have S := nk__law_equal
  refine FunH.ok F sc__law_equal (fun vs H Q E h => ?_) (fun cdv A outer s H vs Q E p hot hr h => ?_)
  · obtain ⟨x, rfl, _⟩ := h; rfl
  · obtain ⟨x, rfl, hd, hQ⟩ := h
    cases hd
    all_goals
      show ZSs _ _ _ _ _ _ [some _, some _, none] H
      refine zss_cons ?_
      fail "za"
      all_goals first | (simp; exact hQ) | (simp_all; done)

def modes : List Str := ["nearest-even", "nearest-out", "nearest-in", "nearest-up", "nearest-down", "inward", "outward", "upward", "downward"]
def nears : List Str := ["nearest-even", "nearest-out", "nearest-in", "nearest-up", "nearest-down"]
def goesUp (m : Str) (pos : Bool) : Bool := if m = "inward" then !pos else if m = "outward" then pos else decide (m = "upward")
def direc (m : Str) (s : Int) : Str := if m ∈ nears then "near" else if goesUp m (decide (0 < s)) = decide (0 < s) then "out" else "in"
def spModes : Sp := fun vs H Q _ => vs = [] ∧ ∀ p H', H p = none → Same H H' → H' p = some (.lst (modes.map V.str)) → Q (.ref p) H'
def spMode : Sp := fun vs H Q _ => ∃ p, vs = [.ref p] ∧ Src H p ∧ ∀ m H', m ∈ modes → Same H H' → Q (.str m) H'
theorem modes_do {H : Hp} {Q : VK} {E : XK} (h : ∀ p H', NoA H p → Same H H' → H' p = some (.lst (modes.map V.str)) → Q (.ref p) H') : spModes [] H Q E := ⟨rfl, fun p H' n => h p H' ⟨n⟩⟩
theorem mode_do {p : Addr} {H : Hp} {Q : VK} {E : XK} (h3 : Src H p) (h : ∀ m H', m ∈ modes → Same H H' → Q (.str m) H') : spMode [.ref p] H Q E := ⟨p, rfl, h3, h⟩
local macro_rules | `(tactic| fail "zP") => `(tactic| (with_reducible refine modes_do ?_); intro _ _ _ _ _)
local macro_rules | `(tactic| fail "zP") => `(tactic| (with_reducible refine' mode_do ?h3 (fun _ _ _ _ => ?h)); (case h3 => fail "zsrc"))
theorem ok_modes {f : Addr} {fd : FuncData} (F : Fun K "_law_modes" "_law_modes" S__law_modes f fd) : FnOk P w K mg base (L2N.CX P w) 1 f fd [] spModes := by
  have S := nk__law_modes
  refine F.okN sc__law_modes (fun vs H Q E h => ?_) (fun cdv A outer s H vs Q E hr h => ?_)
  · obtain ⟨rfl, _⟩ := h; rfl
  · obtain ⟨rfl, hQ⟩ := h
    show ZSs _ _ _ _ _ _ [none] H
    fail "z0"
    refine hQ _ _ ?_ ?_ ?_
    · fail "zno"
    · fail "zsm"
    · exact upd_same
theorem ok_mode {f : Addr} {fd : FuncData} (F : Fun K "_law_mode" "_law_mode" S__law_mode f fd) (c1 : Cal P w K mg base 1 "_law_draw" spDraw) (c2 : Cal P w K mg base 1 "_law_modes" spModes) : FnOk P w K mg base (L2N.CX P w) 2 f fd ["source"] spMode := by
  have S := nk__law_mode
  refine F.okN sc__law_mode (fun vs H Q E h => ?_) (fun cdv A outer s H vs Q E hr h => ?_)
  · obtain ⟨p, rfl, _⟩ := h; rfl
  · obtain ⟨p, rfl, hs, hQ⟩ := h
    show ZSs _ _ _ _ _ _ [some (.ref p)] H
    fail "z0"
    rename_i q H1 _ s1 hq v h0 h9
    obtain ⟨x, hx, hx2⟩ := atI_lt h0 (show v < (modes.map V.str).length by exact h9)
    obtain ⟨m, hm, rfl⟩ := map_get hx
    refine xw_lst (SqL.of hq) hx2 ?_
    exact hQ _ _ (List.mem_of_getElem? hm) s1


def spChk (C : Addr) : Sp := fun vs H Q E => ∃ z : Str, vs = [.str z] ∧ (z ∈ modes → Q .non H) ∧ (z ∉ modes → ∀ d, H d = none → E (.ref C) (some d) (upd H d (.xd [("mode", .str z)])))
def spDir (C : Addr) : Sp := fun vs H Q E => ∃ (z : Str) (i : Int), vs = [.str z, .int i] ∧ (z ∈ modes → Q (.str (direc z i)) H) ∧ (z ∉ modes → ∀ d, H d = none → E (.ref C) (some d) (upd H d (.xd [("mode", .str z)])))
def spUp : Sp := fun vs H Q _ => ∃ (z : Str) (b : Bool), vs = [.str z, .bl b] ∧ Q (.bl (goesUp z b)) H
theorem up_do {z : Str} {b : Bool} {H : Hp} {Q : VK} {E : XK} (h : Q (.bl (goesUp z b)) H) : spUp [.str z, .bl b] H Q E := ⟨z, b, rfl, h⟩
theorem chk_do {C : Addr} {z : Str} {H : Hp} {Q : VK} {E : XK} (h : z ∈ modes → Q .non H) (h2 : z ∉ modes → ∀ d, NoA H d → E (.ref C) (some d) (upd H d (.xd [("mode", .str z)]))) : spChk C [.str z] H Q E := ⟨z, rfl, h, fun hz d n => h2 hz d ⟨n⟩⟩
theorem dir_do {C : Addr} {z : Str} {i : Int} {H : Hp} {Q : VK} {E : XK} (h : z ∈ modes → Q (.str (direc z i)) H) (h2 : z ∉ modes → ∀ d, NoA H d → E (.ref C) (some d) (upd H d (.xd [("mode", .str z)]))) : spDir C [.str z, .int i] H Q E := ⟨z, i, rfl, h, fun hz d n => h2 hz d ⟨n⟩⟩
local macro_rules | `(tactic| fail "zP") => `(tactic| (with_reducible first | refine up_do ?_ | refine chk_do (fun _ => ?_) (fun _ _ _ => ?_) | refine dir_do (fun _ => ?_) (fun _ _ _ => ?_)))
theorem ok_check {f C aM : Addr} {fd : FuncData} (F : Fun K "check_mode" "check_mode" S_check_mode f fd) (gM : mg "MODES" = some (.ref aM)) (tM : ∀ H, SqT K H aM (modes.map V.str)) (cB : XCls P K mg "BadMode" C ["mode"]) : FnOk P w K mg base (L2N.CX P w) 2 f fd ["mode"] (spChk C) := by
  have S := nk_check_mode
  refine F.okN sc_check_mode (fun vs H Q E h => ?_) (fun cdv A outer s H vs Q E hr h => ?_)
  · obtain ⟨z, rfl, _⟩ := h; rfl
  · obtain ⟨z, rfl, h1, h2⟩ := h
    have tM := tM H
    show ZSs _ _ _ _ _ _ [some (.str z)] H
    fail "z0"
    · exact h2 (by have := ‹inV _ _ = false›; rw [inV_str] at this; simpa using this) _ (by fail "zno")
    · exact h1 (by have := ‹inV _ _ = true›; rw [inV_str] at this; simpa using this)
theorem ok_up {f : Addr} {fd : FuncData} (F : Fun K "goes_up" "goes_up" S_goes_up f fd) : FnOk P w K mg base (L2N.CX P w) 1 f fd ["mode", "positive"] spUp := by
  have S := nk_goes_up
  refine F.okN sc_goes_up (fun vs H Q E h => ?_) (fun cdv A outer s H vs Q E hr h => ?_)
  · obtain ⟨z, b, rfl, _⟩ := h; rfl
  · obtain ⟨z, b, rfl, hQ⟩ := h
    show ZSs _ _ _ _ _ _ [some (.str z), some (.bl b)] H
    fail "z0"
    all_goals (unfold goesUp at hQ; simp_all)
theorem ok_dir {f C aN : Addr} {fd : FuncData} (F : Fun K "direction" "direction" S_direction f fd) (gN : mg "NEAREST" = some (.ref aN)) (tN : ∀ H, SqT K H aN (nears.map V.str)) (cC : Cal P w K mg base 2 "check_mode" (spChk C)) (cU : Cal P w K mg base 1 "goes_up" spUp) : FnOk P w K mg base (L2N.CX P w) 3 f fd ["mode", "sign"] (spDir C) := by
  have S := nk_direction
  refine F.okN sc_direction (fun vs H Q E h => ?_) (fun cdv A outer s H vs Q E hr h => ?_)
  · obtain ⟨z, b, rfl, _⟩ := h; rfl
  · obtain ⟨z, i, rfl, h1, h2⟩ := h
    have tN := tN H
    show ZSs _ _ _ _ _ _ [some (.str z), some (.int i)] H
    fail "z0"
    any_goals exact h2 (by assumption) _ (by fail "zno")
    all_goals
      have h3 := h1 (by assumption)
      unfold direc at h3
      simp_all [inV_str]

def spCB (C : Addr) : Sp := fun vs H Q E => ∃ b : Int, vs = [.int b] ∧ (2 ≤ b ∧ b ≤ 36 → Q .non H) ∧ (¬ (2 ≤ b ∧ b ≤ 36) → ∀ d, H d = none → E (.ref C) (some d) (upd H d (.xd [("base", .int b)])))
theorem cb_do {C : Addr} {b : Int} {H : Hp} {Q : VK} {E : XK} (h : 2 ≤ b ∧ b ≤ 36 → Q .non H) (h2 : ¬ (2 ≤ b ∧ b ≤ 36) → ∀ d, NoA H d → E (.ref C) (some d) (upd H d (.xd [("base", .int b)]))) : spCB C [.int b] H Q E := ⟨b, rfl, h, fun hz d n => h2 hz d ⟨n⟩⟩
local macro_rules | `(tactic| fail "zP") => `(tactic| (with_reducible refine cb_do (fun _ => ?_) (fun _ _ _ => ?_)))
theorem ok_cb {f C : Addr} {fd : FuncData} (F : Fun K "check_base" "check_base" S_check_base f fd) (cB : XCls P K mg "BadBase" C ["base"]) : FnOk P w K mg base (L2N.CX P w) 2 f fd ["base"] (spCB C) := by
  have S := nk_check_base
  refine F.okN sc_check_base (fun vs H Q E h => ?_) (fun cdv A outer s H vs Q E hr h => ?_)
  · obtain ⟨z, rfl, _⟩ := h; rfl
  · obtain ⟨b, rfl, h1, h2⟩ := h
    show ZSs _ _ _ _ _ _ [some (.int b)] H
    fail "z0"
    all_goals first
      | exact h1 ⟨by assumption, by assumption⟩
      | exact h2 (fun h => absurd h.1 (by assumption)) _ (by fail "zno")
      | exact h2 (fun h => absurd h.2 (by assumption)) _ (by fail "zno")

def tgo (m : Str) (s : Int) : Bool := if m = "nearest-up" then decide (0 < s) else if m = "nearest-down" then decide (s < 0) else !decide (m = "nearest-in")
def reachF (m : Str) (b s : Int) : Int := if direc m s = "in" then 0 else if direc m s = "out" then b - 1 else if tgo m s = true then b / 2 else (b - 1) / 2
def spTgo : Sp := fun vs H Q _ => ∃ (m : Str) (s : Int), vs = [.str m, .int s] ∧ Q (.bl (tgo m s)) H
def spReach (C CB : Addr) : Sp := fun vs H Q E => ∃ (m : Str) (b s : Int), vs = [.str m, .int b, .int s] ∧ (m ∈ modes → 2 ≤ b ∧ b ≤ 36 → Q (.int (reachF m b s)) H) ∧ (m ∉ modes → ∀ d, H d = none → E (.ref C) (some d) (upd H d (.xd [("mode", .str m)]))) ∧
  (m ∈ modes → ¬ (2 ≤ b ∧ b ≤ 36) → ∀ d, H d = none → E (.ref CB) (some d) (upd H d (.xd [("base", .int b)])))
theorem tgo_do {m : Str} {s : Int} {H : Hp} {Q : VK} {E : XK} (h : Q (.bl (tgo m s)) H) : spTgo [.str m, .int s] H Q E := ⟨m, s, rfl, h⟩
theorem reach_do {C CB : Addr} {m : Str} {b s : Int} {H : Hp} {Q : VK} {E : XK} (h : m ∈ modes → 2 ≤ b ∧ b ≤ 36 → Q (.int (reachF m b s)) H) (h2 : m ∉ modes → ∀ d, NoA H d → E (.ref C) (some d) (upd H d (.xd [("mode", .str m)])))
    (h3 : m ∈ modes → ¬ (2 ≤ b ∧ b ≤ 36) → ∀ d, NoA H d → E (.ref CB) (some d) (upd H d (.xd [("base", .int b)]))) : spReach C CB [.str m, .int b, .int s] H Q E := ⟨m, b, s, rfl, h, fun hz d n => h2 hz d ⟨n⟩, fun hm hz d n => h3 hm hz d ⟨n⟩⟩
local macro_rules | `(tactic| fail "zP") => `(tactic| (with_reducible first | refine tgo_do ?_))
theorem ok_tgo {f : Addr} {fd : FuncData} (F : Fun K "tie_goes_out" "tie_goes_out" S_tie_goes_out f fd) : FnOk P w K mg base (L2N.CX P w) 1 f fd ["mode", "sign"] spTgo := by
  have S := nk_tie_goes_out
  refine F.okN sc_tie_goes_out (fun vs H Q E h => ?_) (fun cdv A outer s H vs Q E hr h => ?_)
  · obtain ⟨z, b, rfl, _⟩ := h; rfl
  · obtain ⟨m, s, rfl, hQ⟩ := h
    show ZSs _ _ _ _ _ _ [some (.str m), some (.int s)] H
    fail "z0"
    all_goals (unfold tgo at hQ; simp_all)
theorem ok_reach {f C CB : Addr} {fd : FuncData} (F : Fun K "reach" "reach" S_reach f fd) (cD : Cal P w K mg base 3 "direction" (spDir C)) (cC : Cal P w K mg base 2 "check_base" (spCB CB)) (cT : Cal P w K mg base 1 "tie_goes_out" spTgo) : FnOk P w K mg base (L2N.CX P w) 4 f fd ["mode", "base", "sign"] (spReach C CB) := by
  have S := nk_reach
  refine F.okN sc_reach (fun vs H Q E h => ?_) (fun cdv A outer s H vs Q E hr h => ?_)
  · obtain ⟨m, b, s, rfl, _⟩ := h; rfl
  · obtain ⟨m, b, s, rfl, h1, h2, h3⟩ := h
    show ZSs _ _ _ _ _ _ [some (.str m), some (.int b), some (.int s), none] H
    fail "z0"
    any_goals exact h2 (by assumption) _ (by fail "zno")
    any_goals exact h3 (by assumption) (by assumption) _ (by fail "zno")
    all_goals
      have h4 := h1 (by assumption) (by assumption)
      unfold reachF at h4
    all_goals simp_all

def odd0 (m : Str) (n : Nat) : Str := cutS m none (some n)
def odd1 (m : Str) (n : Nat) : Str := cutS m none (some n) ++ cutS m (some (n + 1)) none
def odd2 (m : Str) (n : Nat) : Str := cutS m none (some n) ++ Txt.replace (Txt.upper (cutS m (some n) (some (n + 1)))) "-" "_" ++ cutS m (some (n + 1)) none
def odd5 (m : Str) (n : Nat) : Str := cutS m none (some (n + 1)) ++ cutS m (some n) none
theorem odd0_no : ∀ m ∈ modes, ∀ n, n < m.length → odd0 m n ∉ modes := by decide +kernel
theorem odd1_no : ∀ m ∈ modes, ∀ n, n < m.length → odd1 m n ∉ modes := by decide +kernel
theorem odd5_no : ∀ m ∈ modes, ∀ n, n < m.length → odd5 m n ∉ modes := by decide +kernel
theorem odd2_no : ∀ m ∈ modes, ∀ n, n < m.length → odd2 m n ∉ modes := by decide +kernel

theorem modes_len : ∀ m ∈ modes, 0 < m.length ∧ m.length ≤ 16 := by decide +kernel
theorem oI0 {m : Str} {v : Int} (hm : m ∈ modes) (h0 : 0 ≤ v) (h1 : v < m.length) : cutS m none (some v) ∉ modes := by
  obtain ⟨n, rfl⟩ := Int.eq_ofNat_of_zero_le h0
  exact odd0_no m hm n (by omega)
theorem oI1 {m : Str} {v : Int} (hm : m ∈ modes) (h0 : 0 ≤ v) (h1 : v < m.length) : cutS m none (some v) ++ cutS m (some (v + 1)) none ∉ modes := by
  obtain ⟨n, rfl⟩ := Int.eq_ofNat_of_zero_le h0
  exact odd1_no m hm n (by omega)
theorem oI2 {m : Str} {v : Int} (hm : m ∈ modes) (h0 : 0 ≤ v) (h1 : v < m.length) : cutS m none (some v) ++ Txt.replace (Txt.upper (cutS m (some v) (some (v + 1)))) "-" "_" ++ cutS m (some (v + 1)) none ∉ modes := by
  obtain ⟨n, rfl⟩ := Int.eq_ofNat_of_zero_le h0
  exact odd2_no m hm n (by omega)
theorem oI5 {m : Str} {v : Int} (hm : m ∈ modes) (h0 : 0 ≤ v) (h1 : v < m.length) : cutS m none (some (v + 1)) ++ cutS m (some v) none ∉ modes := by
  obtain ⟨n, rfl⟩ := Int.eq_ofNat_of_zero_le h0
  exact odd5_no m hm n (by omega)
theorem o3_no : ∀ m ∈ modes, m ++ " " ∉ modes := by decide +kernel
theorem o4_no : ∀ m ∈ modes, " " ++ m ∉ modes := by decide +kernel
def oddW : List Str := ["nearest", "even", "up", "down", "in", "out", "near", "none"]
theorem oW_no : ∀ m ∈ oddW, m ∉ modes := by decide +kernel
theorem up_len {x : Str} (h : x.length ≤ 16) : (Txt.upper x).length ≤ 48 := by have := PyProof.Rows.len_upper x; omega
theorem rep_len {x : Str} (h : x.length ≤ 16) : (Txt.replace (Txt.upper x) "-" "_").length ≤ 97 := by
  have a := up_len h
  have b := TK.replace_len (Txt.upper x) "-" "_"
  have c : ("_" : Str).length = 1 := by decide +kernel
  rw [c] at b
  omega
def spOdd : Sp := fun vs H Q _ => ∃ p, vs = [.ref p] ∧ Src H p ∧ ∀ z H', z ∉ modes → Same H H' → Q (.str z) H'
theorem odd_do {p : Addr} {H : Hp} {Q : VK} {E : XK} (h3 : Src H p) (h : ∀ m H', m ∉ modes → Same H H' → Q (.str m) H') : spOdd [.ref p] H Q E := ⟨p, rfl, h3, h⟩
local macro_rules | `(tactic| fail "zP") => `(tactic| (with_reducible refine' odd_do ?h3 (fun _ _ _ _ => ?h)); (case h3 => fail "zsrc"))
theorem ok_odd {f : Addr} {fd : FuncData} (F : Fun K "_law_odd_mode" "_law_odd_mode" S__law_odd_mode f fd) (c1 : Cal P w K mg base 1 "_law_draw" spDraw) (c2 : Cal P w K mg base 2 "_law_mode" spMode) (B : Blt mg) : FnOk P w K mg base (L2N.CX P w) 3 f fd ["source"] spOdd := by
  have S := nk__law_odd_mode
  refine F.okN sc__law_odd_mode (fun vs H Q E h => ?_) (fun cdv A outer s H vs Q E hr h => ?_)
  · obtain ⟨p, rfl, _⟩ := h; rfl
  · obtain ⟨p, rfl, hs, hQ⟩ := h
    have hl1 : ∀ m, m ∈ modes → m.length ≤ sizeLine := fun m h => by have := modes_len m h; rw [sizeLine_eq]; omega
    show ZSs _ _ _ _ _ _ [some (.ref p), none, none, none] H
    fail "z0"
    all_goals
      have hm := ‹_ ∈ modes›
      have ml := modes_len _ hm
      try first
      | (with_reducible refine hQ _ _ ?_ ?_
         · with_reducible first | exact oI0 hm (by assumption) (by assumption) | exact oI1 hm (by assumption) (by assumption) | exact oI5 hm (by assumption) (by assumption) | exact o3_no _ hm | exact o4_no _ hm
         · fail "zsm")
      | with_reducible exact hl1 _ hm
      | omega
      | (have e1 := fun a b => Nat.le_trans (cutS_len _ a b) ml.2; rw [sizeLine_eq]; with_reducible exact Nat.le_trans (Nat.add_le_add (e1 _ _) (e1 _ _)) (by decide))
      | (have e1 : (" " : Str).length = 1 := by decide +kernel
         rw [sizeLine_eq, e1]; omega)
    · have e1 := fun a b => Nat.le_trans (cutS_len _ a b) ml.2
      have e2 : ("_" : Str).length = 1 := by decide +kernel
      have a1 := fun a b => up_len (e1 a b)
      refine ze_upRep ?_
      fail "za"
      · exact hl1 _ hm
      refine ⟨Nat.le_trans (e1 _ _) (by decide), by rw [e2]; exact Nat.le_trans (Nat.add_le_add (a1 _ _) (Nat.mul_le_mul_right 1 (Nat.add_le_add_right (a1 _ _) 1))) (by decide), ?_⟩
      fail "za"
      · rw [sizeLine_eq]; exact Nat.le_trans (Nat.add_le_add (e1 _ _) (rep_len (e1 _ _))) (by decide)
      · exact hl1 _ hm
      · rw [sizeLine_eq, str_app_len]; exact Nat.le_trans (Nat.add_le_add (Nat.add_le_add (e1 _ _) (rep_len (e1 _ _))) (e1 _ _)) (by decide)
      with_reducible refine hQ _ _ ?_ ?_
      · with_reducible exact oI2 hm (by assumption) (by assumption)
      · fail "zsm"
    · rename_i v hv0 hv1
      fail "zz"
      obtain ⟨x, hx, hx2⟩ := atI_lt hv0 (show v < (oddW.map V.str).length by exact hv1)
      obtain ⟨m, hm, rfl⟩ := map_get hx
      refine xw_lst (SqL.of (xs := oddW.map V.str) (by fail "zh")) hx2 ?_
      exact hQ _ _ (oW_no _ (List.mem_of_getElem? hm)) (by fail "zsm")


def spBase : Sp := fun vs H Q _ => ∃ p, vs = [.ref p] ∧ Src H p ∧ ∀ b H', 2 ≤ b → b ≤ 36 → Same H H' → Q (.int b) H'
theorem base_do {p : Addr} {H : Hp} {Q : VK} {E : XK} (h3 : Src H p) (h : ∀ b H', 2 ≤ b → b ≤ 36 → Same H H' → Q (.int b) H') : spBase [.ref p] H Q E := ⟨p, rfl, h3, h⟩
local macro_rules | `(tactic| fail "zP") => `(tactic| (with_reducible refine' base_do ?h3 (fun _ _ _ _ _ => ?h)); (case h3 => fail "zsrc"))
theorem ok_base {f : Addr} {fd : FuncData} (F : Fun K "_law_base" "_law_base" S__law_base f fd) (c1 : Cal P w K mg base 1 "_law_draw" spDraw) : FnOk P w K mg base (L2N.CX P w) 2 f fd ["source"] spBase := by
  have S := nk__law_base
  refine F.okN sc__law_base (fun vs H Q E h => ?_) (fun cdv A outer s H vs Q E hr h => ?_)
  · obtain ⟨p, rfl, _⟩ := h; rfl
  · obtain ⟨p, rfl, hs, hQ⟩ := h
    show ZSs _ _ _ _ _ _ [some (.ref p), none] H
    fail "z0"
    · exact hQ _ _ (by omega) (by omega) (by fail "zsm")
    · exact hQ _ _ (by omega) (by omega) (by fail "zsm")
    · rename_i v v0 v9
      refine xw_lstP (P := fun v => ∃ i, v = .int i ∧ 2 ≤ i ∧ i ≤ 36) (SqL.of (xs := [.int 10, .int 16, .int 2, .int 3, .int 36]) (by fail "zh")) v0 v9 ?_ ?_
      · exact All.cons ⟨_, rfl, by decide, by decide⟩ (All.cons ⟨_, rfl, by decide, by decide⟩ (All.cons ⟨_, rfl, by decide, by decide⟩ (All.cons ⟨_, rfl, by decide, by decide⟩ (All.cons ⟨_, rfl, by decide, by decide⟩ All.nil))))
      · rintro v ⟨i, rfl, h1, h2⟩
        exact hQ _ _ h1 h2 (by fail "zsm")

/-! the plain part -/
def tieUp (m : Str) (q : Int) (pos : Bool) : Bool := if m = "nearest-even" then decide (q % 2 = 1) else if m = "nearest-out" then pos else if m = "nearest-in" then !pos else decide (m = "nearest-up")
def upF (m : Str) (n d : Int) : Bool := if m ∉ nears then goesUp m (decide (0 < n)) else if 2 * (n % d) = d then tieUp m (n / d) (decide (0 < n)) else decide (d < 2 * (n % d))
def roundF (m : Str) (n d : Int) : Int := if n % d = 0 then n / d else if upF m n d = true then n / d + 1 else n / d
def absI (i : Int) : Int := if i < 0 then -i else i
def chosenF (n d : Int) (m : Str) (r : Int) : Bool :=
  let off := r * d - n
  if d ≤ absI off then false else if off = 0 then true else
  if m = "inward" ∨ m = "outward" then decide (decide (0 < off * n) = decide (m = "outward"))
  else if m = "upward" ∨ m = "downward" then decide (decide (0 < off) = decide (m = "upward"))
  else if 2 * absI off ≠ d then decide (2 * absI off < d)
  else if m = "nearest-even" then decide (r % 2 = 0)
  else if m = "nearest-out" ∨ m = "nearest-in" then decide (decide (0 < off * n) = decide (m = "nearest-out"))
  else decide (decide (0 < off) = decide (m = "nearest-up"))
theorem mul_pos_iff {a b : Int} (hb : b ≠ 0) : 0 < a * b ↔ (0 < a ∧ 0 < b) ∨ (a < 0 ∧ b < 0) := by
  constructor
  · intro h
    rcases Int.lt_trichotomy b 0 with hb | hb | hb
    · right
      refine ⟨?_, hb⟩
      rcases Int.lt_trichotomy a 0 with ha | ha | ha
      · exact ha
      · subst ha; simp at h
      · have := Int.mul_neg_of_pos_of_neg ha hb; omega
    · contradiction
    · left
      refine ⟨?_, hb⟩
      rcases Int.lt_trichotomy a 0 with ha | ha | ha
      · have := Int.mul_neg_of_neg_of_pos ha hb; omega
      · subst ha; simp at h
      · exact ha
  · rintro (⟨ha, hb⟩ | ⟨ha, hb⟩)
    · exact Int.mul_pos ha hb
    · exact Int.mul_pos_of_neg_of_neg ha hb
/-- what the rounding leaves over -/
theorem round_off (m : Str) (n d : Int) (hd : 0 < d) : roundF m n d * d - n = if n % d = 0 then 0 else if upF m n d = true then d - n % d else -(n % d) := by
  have e := Int.mul_ediv_add_emod n d
  have e2 : d * (n / d) = (n / d) * d := Int.mul_comm _ _
  unfold roundF
  split
  · omega
  · split
    · rw [Int.add_mul]; omega
    · omega
theorem mne_0 : ("nearest-even" : Str) ≠ "nearest-out" ∧ ("nearest-even" : Str) ≠ "nearest-in" ∧ ("nearest-even" : Str) ≠ "nearest-up" ∧ ("nearest-even" : Str) ≠ "nearest-down" ∧ ("nearest-even" : Str) ≠ "inward" ∧ ("nearest-even" : Str) ≠ "outward" ∧ ("nearest-even" : Str) ≠ "upward" ∧ ("nearest-even" : Str) ≠ "downward" := by decide +kernel
theorem mne_1 : ("nearest-out" : Str) ≠ "nearest-even" ∧ ("nearest-out" : Str) ≠ "nearest-in" ∧ ("nearest-out" : Str) ≠ "nearest-up" ∧ ("nearest-out" : Str) ≠ "nearest-down" ∧ ("nearest-out" : Str) ≠ "inward" ∧ ("nearest-out" : Str) ≠ "outward" ∧ ("nearest-out" : Str) ≠ "upward" ∧ ("nearest-out" : Str) ≠ "downward" := by decide +kernel
theorem mne_2 : ("nearest-in" : Str) ≠ "nearest-even" ∧ ("nearest-in" : Str) ≠ "nearest-out" ∧ ("nearest-in" : Str) ≠ "nearest-up" ∧ ("nearest-in" : Str) ≠ "nearest-down" ∧ ("nearest-in" : Str) ≠ "inward" ∧ ("nearest-in" : Str) ≠ "outward" ∧ ("nearest-in" : Str) ≠ "upward" ∧ ("nearest-in" : Str) ≠ "downward" := by decide +kernel
theorem mne_3 : ("nearest-up" : Str) ≠ "nearest-even" ∧ ("nearest-up" : Str) ≠ "nearest-out" ∧ ("nearest-up" : Str) ≠ "nearest-in" ∧ ("nearest-up" : Str) ≠ "nearest-down" ∧ ("nearest-up" : Str) ≠ "inward" ∧ ("nearest-up" : Str) ≠ "outward" ∧ ("nearest-up" : Str) ≠ "upward" ∧ ("nearest-up" : Str) ≠ "downward" := by decide +kernel
theorem mne_4 : ("nearest-down" : Str) ≠ "nearest-even" ∧ ("nearest-down" : Str) ≠ "nearest-out" ∧ ("nearest-down" : Str) ≠ "nearest-in" ∧ ("nearest-down" : Str) ≠ "nearest-up" ∧ ("nearest-down" : Str) ≠ "inward" ∧ ("nearest-down" : Str) ≠ "outward" ∧ ("nearest-down" : Str) ≠ "upward" ∧ ("nearest-down" : Str) ≠ "downward" := by decide +kernel
theorem mne_5 : ("inward" : Str) ≠ "nearest-even" ∧ ("inward" : Str) ≠ "nearest-out" ∧ ("inward" : Str) ≠ "nearest-in" ∧ ("inward" : Str) ≠ "nearest-up" ∧ ("inward" : Str) ≠ "nearest-down" ∧ ("inward" : Str) ≠ "outward" ∧ ("inward" : Str) ≠ "upward" ∧ ("inward" : Str) ≠ "downward" := by decide +kernel
theorem mne_6 : ("outward" : Str) ≠ "nearest-even" ∧ ("outward" : Str) ≠ "nearest-out" ∧ ("outward" : Str) ≠ "nearest-in" ∧ ("outward" : Str) ≠ "nearest-up" ∧ ("outward" : Str) ≠ "nearest-down" ∧ ("outward" : Str) ≠ "inward" ∧ ("outward" : Str) ≠ "upward" ∧ ("outward" : Str) ≠ "downward" := by decide +kernel
theorem mne_7 : ("upward" : Str) ≠ "nearest-even" ∧ ("upward" : Str) ≠ "nearest-out" ∧ ("upward" : Str) ≠ "nearest-in" ∧ ("upward" : Str) ≠ "nearest-up" ∧ ("upward" : Str) ≠ "nearest-down" ∧ ("upward" : Str) ≠ "inward" ∧ ("upward" : Str) ≠ "outward" ∧ ("upward" : Str) ≠ "downward" := by decide +kernel
theorem mne_8 : ("downward" : Str) ≠ "nearest-even" ∧ ("downward" : Str) ≠ "nearest-out" ∧ ("downward" : Str) ≠ "nearest-in" ∧ ("downward" : Str) ≠ "nearest-up" ∧ ("downward" : Str) ≠ "nearest-down" ∧ ("downward" : Str) ≠ "inward" ∧ ("downward" : Str) ≠ "outward" ∧ ("downward" : Str) ≠ "upward" := by decide +kernel
theorem up_inward (n d : Int) : upF "inward" n d = !decide (0 < n) := by unfold upF; rw [if_pos (by decide +kernel)]; unfold goesUp; rw [if_pos rfl]
theorem up_outward (n d : Int) : upF "outward" n d = decide (0 < n) := by unfold upF; rw [if_pos (by decide +kernel)]; unfold goesUp; rw [if_neg (by decide +kernel), if_pos rfl]
theorem up_upward (n d : Int) : upF "upward" n d = true := by unfold upF; rw [if_pos (by decide +kernel)]; unfold goesUp; rw [if_neg (by decide +kernel), if_neg (by decide +kernel)]; simp
theorem up_downward (n d : Int) : upF "downward" n d = false := by unfold upF; rw [if_pos (by decide +kernel)]; unfold goesUp; rw [if_neg (by decide +kernel), if_neg (by decide +kernel)]; simp [mne_8]
theorem up_near {m : Str} (h : m ∈ nears) (n d : Int) : upF m n d = if 2 * (n % d) = d then tieUp m (n / d) (decide (0 < n)) else decide (d < 2 * (n % d)) := by unfold upF; rw [if_neg (by simp [h])]
theorem tie_even (q : Int) (p : Bool) : tieUp "nearest-even" q p = decide (q % 2 = 1) := by unfold tieUp; rw [if_pos rfl]
theorem tie_out (q : Int) (p : Bool) : tieUp "nearest-out" q p = p := by unfold tieUp; rw [if_neg (by decide +kernel), if_pos rfl]
theorem tie_in (q : Int) (p : Bool) : tieUp "nearest-in" q p = !p := by unfold tieUp; rw [if_neg (by decide +kernel), if_neg (by decide +kernel), if_pos rfl]
theorem tie_up (q : Int) (p : Bool) : tieUp "nearest-up" q p = true := by unfold tieUp; rw [if_neg (by decide +kernel), if_neg (by decide +kernel), if_neg (by decide +kernel)]; simp
theorem tie_down (q : Int) (p : Bool) : tieUp "nearest-down" q p = false := by unfold tieUp; rw [if_neg (by decide +kernel), if_neg (by decide +kernel), if_neg (by decide +kernel)]; simp [mne_4]
theorem chosen_ok {m : Str} (hm : m ∈ modes) (n d : Int) (hd : 0 < d) (hn : n ≠ 0) : chosenF n d m (roundF m n d) = true := by
  have r0 := Int.emod_nonneg n (show d ≠ 0 by omega)
  have r9 := Int.emod_lt_of_pos n hd
  have e := round_off m n d hd
  unfold chosenF
  simp only []
  rw [e]
  simp only [mul_pos_iff hn]
  by_cases hz : n % d = 0
  · simp [hz, absI]; omega
  · rw [if_neg hz]
    unfold roundF
    rw [if_neg hz]
    have n0 : ("nearest-even" : Str) ∈ nears ∧ ("nearest-out" : Str) ∈ nears ∧ ("nearest-in" : Str) ∈ nears ∧ ("nearest-up" : Str) ∈ nears ∧ ("nearest-down" : Str) ∈ nears := by decide +kernel
    simp only [modes, List.mem_cons, List.not_mem_nil, or_false] at hm
    rcases hm with rfl | rfl | rfl | rfl | rfl | rfl | rfl | rfl | rfl
    · simp only [up_near n0.1, tie_even, mne_0, absI, false_or, or_false, or_true, true_or, if_false, if_true]
      generalize n % d = r at *; generalize n / d = q at *
      repeat' split
      all_goals first | omega | (simp at *; omega) | (simp_all; done) | (simp_all; omega)
    · simp only [up_near n0.2.1, tie_out, mne_1, absI, false_or, or_false, or_true, true_or, if_false, if_true]
      generalize n % d = r at *; generalize n / d = q at *
      repeat' split
      all_goals first | omega | (simp at *; omega) | (simp_all; done) | (simp_all; omega)
    · simp only [up_near n0.2.2.1, tie_in, mne_2, absI, false_or, or_false, or_true, true_or, if_false, if_true]
      generalize n % d = r at *; generalize n / d = q at *
      repeat' split
      all_goals first | omega | (simp at *; omega) | (simp_all; done) | (simp_all; omega)
    · simp only [up_near n0.2.2.2.1, tie_up, mne_3, absI, false_or, or_false, or_true, true_or, if_false, if_true]
      generalize n % d = r at *; generalize n / d = q at *
      repeat' split
      all_goals first | omega | (simp at *; omega) | (simp_all; done) | (simp_all; omega)
    · simp only [up_near n0.2.2.2.2, tie_down, mne_4, absI, false_or, or_false, or_true, true_or, if_false, if_true]
      generalize n % d = r at *; generalize n / d = q at *
      repeat' split
      all_goals first | omega | (simp at *; omega) | (simp_all; done) | (simp_all; omega)
    · simp only [up_inward, mne_5, absI, false_or, or_false, or_true, true_or, if_false, if_true]
      generalize n % d = r at *; generalize n / d = q at *
      repeat' split
      all_goals first | omega | (simp at *; omega) | (simp_all; done) | (simp_all; omega)
    · simp only [up_outward, mne_6, absI, false_or, or_false, or_true, true_or, if_false, if_true]
      generalize n % d = r at *; generalize n / d = q at *
      repeat' split
      all_goals first | omega | (simp at *; omega) | (simp_all; done) | (simp_all; omega)
    · simp only [up_upward, mne_7, absI, false_or, or_false, or_true, true_or, if_false, if_true]
      generalize n % d = r at *; generalize n / d = q at *
      repeat' split
      all_goals first | omega | (simp at *; omega) | (simp_all; done) | (simp_all; omega)
    · simp only [up_downward, mne_8, absI, false_or, or_false, or_true, true_or, if_false, if_true]
      generalize n % d = r at *; generalize n / d = q at *
      repeat' split
      all_goals first | omega | (simp at *; omega) | (simp_all; done) | (simp_all; omega)
theorem rv_0p (d : Int) : reachF "nearest-even" d 1 = d / 2 := by
  have a : direc "nearest-even" 1 = "near" := by decide +kernel
  have b : tgo "nearest-even" 1 = true := by decide +kernel
  unfold reachF; rw [if_neg (by rw [a]; decide +kernel), if_neg (by rw [a]; decide +kernel), b]; rfl
theorem rv_0n (d : Int) : reachF "nearest-even" d (-1) = d / 2 := by
  have a : direc "nearest-even" (-1) = "near" := by decide +kernel
  have b : tgo "nearest-even" (-1) = true := by decide +kernel
  unfold reachF; rw [if_neg (by rw [a]; decide +kernel), if_neg (by rw [a]; decide +kernel), b]; rfl
theorem rv_1p (d : Int) : reachF "nearest-out" d 1 = d / 2 := by
  have a : direc "nearest-out" 1 = "near" := by decide +kernel
  have b : tgo "nearest-out" 1 = true := by decide +kernel
  unfold reachF; rw [if_neg (by rw [a]; decide +kernel), if_neg (by rw [a]; decide +kernel), b]; rfl
theorem rv_1n (d : Int) : reachF "nearest-out" d (-1) = d / 2 := by
  have a : direc "nearest-out" (-1) = "near" := by decide +kernel
  have b : tgo "nearest-out" (-1) = true := by decide +kernel
  unfold reachF; rw [if_neg (by rw [a]; decide +kernel), if_neg (by rw [a]; decide +kernel), b]; rfl
theorem rv_2p (d : Int) : reachF "nearest-in" d 1 = (d - 1) / 2 := by
  have a : direc "nearest-in" 1 = "near" := by decide +kernel
  have b : tgo "nearest-in" 1 = false := by decide +kernel
  unfold reachF; rw [if_neg (by rw [a]; decide +kernel), if_neg (by rw [a]; decide +kernel), b]; rfl
theorem rv_2n (d : Int) : reachF "nearest-in" d (-1) = (d - 1) / 2 := by
  have a : direc "nearest-in" (-1) = "near" := by decide +kernel
  have b : tgo "nearest-in" (-1) = false := by decide +kernel
  unfold reachF; rw [if_neg (by rw [a]; decide +kernel), if_neg (by rw [a]; decide +kernel), b]; rfl
theorem rv_3p (d : Int) : reachF "nearest-up" d 1 = d / 2 := by
  have a : direc "nearest-up" 1 = "near" := by decide +kernel
  have b : tgo "nearest-up" 1 = true := by decide +kernel
  unfold reachF; rw [if_neg (by rw [a]; decide +kernel), if_neg (by rw [a]; decide +kernel), b]; rfl
theorem rv_3n (d : Int) : reachF "nearest-up" d (-1) = (d - 1) / 2 := by
  have a : direc "nearest-up" (-1) = "near" := by decide +kernel
  have b : tgo "nearest-up" (-1) = false := by decide +kernel
  unfold reachF; rw [if_neg (by rw [a]; decide +kernel), if_neg (by rw [a]; decide +kernel), b]; rfl
theorem rv_4p (d : Int) : reachF "nearest-down" d 1 = (d - 1) / 2 := by
  have a : direc "nearest-down" 1 = "near" := by decide +kernel
  have b : tgo "nearest-down" 1 = false := by decide +kernel
  unfold reachF; rw [if_neg (by rw [a]; decide +kernel), if_neg (by rw [a]; decide +kernel), b]; rfl
theorem rv_4n (d : Int) : reachF "nearest-down" d (-1) = d / 2 := by
  have a : direc "nearest-down" (-1) = "near" := by decide +kernel
  have b : tgo "nearest-down" (-1) = true := by decide +kernel
  unfold reachF; rw [if_neg (by rw [a]; decide +kernel), if_neg (by rw [a]; decide +kernel), b]; rfl
theorem rv_5p (d : Int) : reachF "inward" d 1 = 0 := by
  have a : direc "inward" 1 = "in" := by decide +kernel
  unfold reachF; rw [if_pos a]
theorem rv_5n (d : Int) : reachF "inward" d (-1) = 0 := by
  have a : direc "inward" (-1) = "in" := by decide +kernel
  unfold reachF; rw [if_pos a]
theorem rv_6p (d : Int) : reachF "outward" d 1 = d - 1 := by
  have a : direc "outward" 1 = "out" := by decide +kernel
  unfold reachF; rw [if_neg (by rw [a]; decide +kernel), if_pos a]
theorem rv_6n (d : Int) : reachF "outward" d (-1) = d - 1 := by
  have a : direc "outward" (-1) = "out" := by decide +kernel
  unfold reachF; rw [if_neg (by rw [a]; decide +kernel), if_pos a]
theorem rv_7p (d : Int) : reachF "upward" d 1 = d - 1 := by
  have a : direc "upward" 1 = "out" := by decide +kernel
  unfold reachF; rw [if_neg (by rw [a]; decide +kernel), if_pos a]
theorem rv_7n (d : Int) : reachF "upward" d (-1) = 0 := by
  have a : direc "upward" (-1) = "in" := by decide +kernel
  unfold reachF; rw [if_pos a]
theorem rv_8p (d : Int) : reachF "downward" d 1 = 0 := by
  have a : direc "downward" 1 = "in" := by decide +kernel
  unfold reachF; rw [if_pos a]
theorem rv_8n (d : Int) : reachF "downward" d (-1) = d - 1 := by
  have a : direc "downward" (-1) = "out" := by decide +kernel
  unfold reachF; rw [if_neg (by rw [a]; decide +kernel), if_pos a]
theorem round_pos (m : Str) {n d : Int} (hd : 0 < d) (hn : 0 < n) : 0 ≤ roundF m n d := by
  have h : 0 ≤ n / d := Int.ediv_nonneg (by omega) (by omega)
  unfold roundF
  repeat' split
  all_goals omega
theorem round_neg (m : Str) {n d : Int} (hd : 0 < d) (hn : n < 0) : roundF m n d ≤ 0 := by
  have h : n / d < 0 := Int.ediv_neg_of_neg_of_pos hn hd
  unfold roundF
  repeat' split
  all_goals omega
theorem grow_abs (m : Str) {s size d : Int} (hs : s = 1 ∨ s = -1) (hd : 0 < d) (hz : 0 < size) : absI (roundF m (s * size) d) * d - size = s * (roundF m (s * size) d * d - s * size) := by
  rcases hs with rfl | rfl
  · have h := round_pos m hd (show 0 < 1 * size by omega)
    unfold absI
    rw [if_neg (by omega)]
    omega
  · have h := round_neg m hd (show -1 * size < 0 by omega)
    unfold absI
    split
    · rw [Int.neg_mul]; omega
    · have h0 : roundF m (-1 * size) d = 0 := by omega
      rw [h0]; omega
theorem reach_lt {m : Str} (hm : m ∈ modes) {s d : Int} (hs : s = 1 ∨ s = -1) (hd : 2 ≤ d) : 0 ≤ reachF m d s ∧ reachF m d s < d := by
  simp only [modes, List.mem_cons, List.not_mem_nil, or_false] at hm
  rcases hm with rfl | rfl | rfl | rfl | rfl | rfl | rfl | rfl | rfl <;> rcases hs with rfl | rfl
  · rw [rv_0p]; omega
  · rw [rv_0n]; omega
  · rw [rv_1p]; omega
  · rw [rv_1n]; omega
  · rw [rv_2p]; omega
  · rw [rv_2n]; omega
  · rw [rv_3p]; omega
  · rw [rv_3n]; omega
  · rw [rv_4p]; omega
  · rw [rv_4n]; omega
  · rw [rv_5p]; omega
  · rw [rv_5n]; omega
  · rw [rv_6p]; omega
  · rw [rv_6n]; omega
  · rw [rv_7p]; omega
  · rw [rv_7n]; omega
  · rw [rv_8p]; omega
  · rw [rv_8n]; omega
theorem grow_le {m : Str} (hm : m ∈ modes) {s size d : Int} (hs : s = 1 ∨ s = -1) (hd : 2 ≤ d) (hz : 0 < size) : absI (roundF m (s * size) d) * d - size ≤ reachF m d s := by
  rw [grow_abs m hs (by omega) hz, round_off m _ _ (by omega)]
  have r0 := Int.emod_nonneg (s * size) (show d ≠ 0 by omega)
  have r9 := Int.emod_lt_of_pos (s * size) (show 0 < d by omega)
  have n0 : ("nearest-even" : Str) ∈ nears ∧ ("nearest-out" : Str) ∈ nears ∧ ("nearest-in" : Str) ∈ nears ∧ ("nearest-up" : Str) ∈ nears ∧ ("nearest-down" : Str) ∈ nears := by decide +kernel
  simp only [modes, List.mem_cons, List.not_mem_nil, or_false] at hm
  rcases hm with rfl | rfl | rfl | rfl | rfl | rfl | rfl | rfl | rfl <;> rcases hs with rfl | rfl
  · rw [rv_0p]; simp only [up_near n0.1, tie_even]
    have hn : 0 < 1 * size := by omega
    generalize 1 * size = n at *
    generalize n % d = r at *; generalize n / d = q at *
    try simp only [decide_eq_true_eq, Bool.not_eq_true', decide_eq_false_iff_not]
    repeat' split
    all_goals first | omega | (simp at *; omega) | (simp_all; done) | (simp_all; omega)
  · rw [rv_0n]; simp only [up_near n0.1, tie_even]
    have hn : -1 * size < 0 := by omega
    generalize -1 * size = n at *
    generalize n % d = r at *; generalize n / d = q at *
    try simp only [decide_eq_true_eq, Bool.not_eq_true', decide_eq_false_iff_not]
    repeat' split
    all_goals first | omega | (simp at *; omega) | (simp_all; done) | (simp_all; omega)
  · rw [rv_1p]; simp only [up_near n0.2.1, tie_out]
    have hn : 0 < 1 * size := by omega
    generalize 1 * size = n at *
    generalize n % d = r at *; generalize n / d = q at *
    try simp only [decide_eq_true_eq, Bool.not_eq_true', decide_eq_false_iff_not]
    repeat' split
    all_goals first | omega | (simp at *; omega) | (simp_all; done) | (simp_all; omega)
  · rw [rv_1n]; simp only [up_near n0.2.1, tie_out]
    have hn : -1 * size < 0 := by omega
    generalize -1 * size = n at *
    generalize n % d = r at *; generalize n / d = q at *
    try simp only [decide_eq_true_eq, Bool.not_eq_true', decide_eq_false_iff_not]
    repeat' split
    all_goals first | omega | (simp at *; omega) | (simp_all; done) | (simp_all; omega)
  · rw [rv_2p]; simp only [up_near n0.2.2.1, tie_in]
    have hn : 0 < 1 * size := by omega
    generalize 1 * size = n at *
    generalize n % d = r at *; generalize n / d = q at *
    try simp only [decide_eq_true_eq, Bool.not_eq_true', decide_eq_false_iff_not]
    repeat' split
    all_goals first | omega | (simp at *; omega) | (simp_all; done) | (simp_all; omega)
  · rw [rv_2n]; simp only [up_near n0.2.2.1, tie_in]
    have hn : -1 * size < 0 := by omega
    generalize -1 * size = n at *
    generalize n % d = r at *; generalize n / d = q at *
    try simp only [decide_eq_true_eq, Bool.not_eq_true', decide_eq_false_iff_not]
    repeat' split
    all_goals first | omega | (simp at *; omega) | (simp_all; done) | (simp_all; omega)
  · rw [rv_3p]; simp only [up_near n0.2.2.2.1, tie_up]
    have hn : 0 < 1 * size := by omega
    generalize 1 * size = n at *
    generalize n % d = r at *; generalize n / d = q at *
    try simp only [decide_eq_true_eq, Bool.not_eq_true', decide_eq_false_iff_not]
    repeat' split
    all_goals first | omega | (simp at *; omega) | (simp_all; done) | (simp_all; omega)
  · rw [rv_3n]; simp only [up_near n0.2.2.2.1, tie_up]
    have hn : -1 * size < 0 := by omega
    generalize -1 * size = n at *
    generalize n % d = r at *; generalize n / d = q at *
    try simp only [decide_eq_true_eq, Bool.not_eq_true', decide_eq_false_iff_not]
    repeat' split
    all_goals first | omega | (simp at *; omega) | (simp_all; done) | (simp_all; omega)
  · rw [rv_4p]; simp only [up_near n0.2.2.2.2, tie_down]
    have hn : 0 < 1 * size := by omega
    generalize 1 * size = n at *
    generalize n % d = r at *; generalize n / d = q at *
    try simp only [decide_eq_true_eq, Bool.not_eq_true', decide_eq_false_iff_not]
    repeat' split
    all_goals first | omega | (simp at *; omega) | (simp_all; done) | (simp_all; omega)
  · rw [rv_4n]; simp only [up_near n0.2.2.2.2, tie_down]
    have hn : -1 * size < 0 := by omega
    generalize -1 * size = n at *
    generalize n % d = r at *; generalize n / d = q at *
    try simp only [decide_eq_true_eq, Bool.not_eq_true', decide_eq_false_iff_not]
    repeat' split
    all_goals first | omega | (simp at *; omega) | (simp_all; done) | (simp_all; omega)
  · rw [rv_5p]; simp only [up_inward]
    have hn : 0 < 1 * size := by omega
    generalize 1 * size = n at *
    generalize n % d = r at *; generalize n / d = q at *
    try simp only [decide_eq_true_eq, Bool.not_eq_true', decide_eq_false_iff_not]
    repeat' split
    all_goals first | omega | (simp at *; omega) | (simp_all; done) | (simp_all; omega)
  · rw [rv_5n]; simp only [up_inward]
    have hn : -1 * size < 0 := by omega
    generalize -1 * size = n at *
    generalize n % d = r at *; generalize n / d = q at *
    try simp only [decide_eq_true_eq, Bool.not_eq_true', decide_eq_false_iff_not]
    repeat' split
    all_goals first | omega | (simp at *; omega) | (simp_all; done) | (simp_all; omega)
  · rw [rv_6p]; simp only [up_outward]
    have hn : 0 < 1 * size := by omega
    generalize 1 * size = n at *
    generalize n % d = r at *; generalize n / d = q at *
    try simp only [decide_eq_true_eq, Bool.not_eq_true', decide_eq_false_iff_not]
    repeat' split
    all_goals first | omega | (simp at *; omega) | (simp_all; done) | (simp_all; omega)
  · rw [rv_6n]; simp only [up_outward]
    have hn : -1 * size < 0 := by omega
    generalize -1 * size = n at *
    generalize n % d = r at *; generalize n / d = q at *
    try simp only [decide_eq_true_eq, Bool.not_eq_true', decide_eq_false_iff_not]
    repeat' split
    all_goals first | omega | (simp at *; omega) | (simp_all; done) | (simp_all; omega)
  · rw [rv_7p]; simp only [up_upward]
    have hn : 0 < 1 * size := by omega
    generalize 1 * size = n at *
    generalize n % d = r at *; generalize n / d = q at *
    try simp only [decide_eq_true_eq, Bool.not_eq_true', decide_eq_false_iff_not]
    repeat' split
    all_goals first | omega | (simp at *; omega) | (simp_all; done) | (simp_all; omega)
  · rw [rv_7n]; simp only [up_upward]
    have hn : -1 * size < 0 := by omega
    generalize -1 * size = n at *
    generalize n % d = r at *; generalize n / d = q at *
    try simp only [decide_eq_true_eq, Bool.not_eq_true', decide_eq_false_iff_not]
    repeat' split
    all_goals first | omega | (simp at *; omega) | (simp_all; done) | (simp_all; omega)
  · rw [rv_8p]; simp only [up_downward]
    have hn : 0 < 1 * size := by omega
    generalize 1 * size = n at *
    generalize n % d = r at *; generalize n / d = q at *
    try simp only [decide_eq_true_eq, Bool.not_eq_true', decide_eq_false_iff_not]
    repeat' split
    all_goals first | omega | (simp at *; omega) | (simp_all; done) | (simp_all; omega)
  · rw [rv_8n]; simp only [up_downward]
    have hn : -1 * size < 0 := by omega
    generalize -1 * size = n at *
    generalize n % d = r at *; generalize n / d = q at *
    try simp only [decide_eq_true_eq, Bool.not_eq_true', decide_eq_false_iff_not]
    repeat' split
    all_goals first | omega | (simp at *; omega) | (simp_all; done) | (simp_all; omega)
theorem grow_eq {m : Str} (hm : m ∈ modes) {s d : Int} (hs : s = 1 ∨ s = -1) (hd : 2 ≤ d) : absI (roundF m (s * (2 * d - reachF m d s)) d) * d - (2 * d - reachF m d s) = reachF m d s := by
  have rl := reach_lt hm hs hd
  rw [grow_abs m hs (by omega) (by omega), round_off m _ _ (by omega)]
  have n0 : ("nearest-even" : Str) ∈ nears ∧ ("nearest-out" : Str) ∈ nears ∧ ("nearest-in" : Str) ∈ nears ∧ ("nearest-up" : Str) ∈ nears ∧ ("nearest-down" : Str) ∈ nears := by decide +kernel
  have qr : (s = 1 → reachF m d s = 0 → (s * (2 * d - reachF m d s)) / d = 2 ∧ (s * (2 * d - reachF m d s)) % d = 0) ∧ (s = 1 → 0 < reachF m d s → (s * (2 * d - reachF m d s)) / d = 1 ∧ (s * (2 * d - reachF m d s)) % d = d - reachF m d s) ∧
      (s = -1 → (s * (2 * d - reachF m d s)) / d = -2 ∧ (s * (2 * d - reachF m d s)) % d = reachF m d s) := by
    generalize reachF m d s = t at *
    refine ⟨fun h1 h2 => ?_, fun h1 h2 => ?_, fun h1 => ?_⟩
    · rw [Int.ediv_emod_unique (by omega)]; subst h1; omega
    · rw [Int.ediv_emod_unique (by omega)]; subst h1; omega
    · rw [Int.ediv_emod_unique (by omega)]; subst h1; omega
  have sg : (s = 1 → 0 < s * (2 * d - reachF m d s)) ∧ (s = -1 → s * (2 * d - reachF m d s) < 0) := by
    generalize reachF m d s = t at *
    constructor
    · intro h; subst h; omega
    · intro h; subst h; omega
  simp only [modes, List.mem_cons, List.not_mem_nil, or_false] at hm
  rcases hm with rfl | rfl | rfl | rfl | rfl | rfl | rfl | rfl | rfl <;> rcases hs with rfl | rfl
  · rw [rv_0p] at *; simp only [up_near n0.1, tie_even]
    generalize 1 * (2 * d - d / 2) = n at *
    generalize n % d = r at *; generalize n / d = q at *
    try simp only [decide_eq_true_eq, Bool.not_eq_true', decide_eq_false_iff_not]
    repeat' split
    all_goals first | omega | (simp at *; omega) | (simp_all; done) | (simp_all; omega)
  · rw [rv_0n] at *; simp only [up_near n0.1, tie_even]
    generalize -1 * (2 * d - d / 2) = n at *
    generalize n % d = r at *; generalize n / d = q at *
    try simp only [decide_eq_true_eq, Bool.not_eq_true', decide_eq_false_iff_not]
    repeat' split
    all_goals first | omega | (simp at *; omega) | (simp_all; done) | (simp_all; omega)
  · rw [rv_1p] at *; simp only [up_near n0.2.1, tie_out]
    generalize 1 * (2 * d - d / 2) = n at *
    generalize n % d = r at *; generalize n / d = q at *
    try simp only [decide_eq_true_eq, Bool.not_eq_true', decide_eq_false_iff_not]
    repeat' split
    all_goals first | omega | (simp at *; omega) | (simp_all; done) | (simp_all; omega)
  · rw [rv_1n] at *; simp only [up_near n0.2.1, tie_out]
    generalize -1 * (2 * d - d / 2) = n at *
    generalize n % d = r at *; generalize n / d = q at *
    try simp only [decide_eq_true_eq, Bool.not_eq_true', decide_eq_false_iff_not]
    repeat' split
    all_goals first | omega | (simp at *; omega) | (simp_all; done) | (simp_all; omega)
  · rw [rv_2p] at *; simp only [up_near n0.2.2.1, tie_in]
    generalize 1 * (2 * d - (d - 1) / 2) = n at *
    generalize n % d = r at *; generalize n / d = q at *
    try simp only [decide_eq_true_eq, Bool.not_eq_true', decide_eq_false_iff_not]
    repeat' split
    all_goals first | omega | (simp at *; omega) | (simp_all; done) | (simp_all; omega)
  · rw [rv_2n] at *; simp only [up_near n0.2.2.1, tie_in]
    generalize -1 * (2 * d - (d - 1) / 2) = n at *
    generalize n % d = r at *; generalize n / d = q at *
    try simp only [decide_eq_true_eq, Bool.not_eq_true', decide_eq_false_iff_not]
    repeat' split
    all_goals first | omega | (simp at *; omega) | (simp_all; done) | (simp_all; omega)
  · rw [rv_3p] at *; simp only [up_near n0.2.2.2.1, tie_up]
    generalize 1 * (2 * d - d / 2) = n at *
    generalize n % d = r at *; generalize n / d = q at *
    try simp only [decide_eq_true_eq, Bool.not_eq_true', decide_eq_false_iff_not]
    repeat' split
    all_goals first | omega | (simp at *; omega) | (simp_all; done) | (simp_all; omega)
  · rw [rv_3n] at *; simp only [up_near n0.2.2.2.1, tie_up]
    generalize -1 * (2 * d - (d - 1) / 2) = n at *
    generalize n % d = r at *; generalize n / d = q at *
    try simp only [decide_eq_true_eq, Bool.not_eq_true', decide_eq_false_iff_not]
    repeat' split
    all_goals first | omega | (simp at *; omega) | (simp_all; done) | (simp_all; omega)
  · rw [rv_4p] at *; simp only [up_near n0.2.2.2.2, tie_down]
    generalize 1 * (2 * d - (d - 1) / 2) = n at *
    generalize n % d = r at *; generalize n / d = q at *
    try simp only [decide_eq_true_eq, Bool.not_eq_true', decide_eq_false_iff_not]
    repeat' split
    all_goals first | omega | (simp at *; omega) | (simp_all; done) | (simp_all; omega)
  · rw [rv_4n] at *; simp only [up_near n0.2.2.2.2, tie_down]
    generalize -1 * (2 * d - d / 2) = n at *
    generalize n % d = r at *; generalize n / d = q at *
    try simp only [decide_eq_true_eq, Bool.not_eq_true', decide_eq_false_iff_not]
    repeat' split
    all_goals first | omega | (simp at *; omega) | (simp_all; done) | (simp_all; omega)
  · rw [rv_5p] at *; simp only [up_inward]
    generalize 1 * (2 * d - 0) = n at *
    generalize n % d = r at *; generalize n / d = q at *
    try simp only [decide_eq_true_eq, Bool.not_eq_true', decide_eq_false_iff_not]
    repeat' split
    all_goals first | omega | (simp at *; omega) | (simp_all; done) | (simp_all; omega)
  · rw [rv_5n] at *; simp only [up_inward]
    generalize -1 * (2 * d - 0) = n at *
    generalize n % d = r at *; generalize n / d = q at *
    try simp only [decide_eq_true_eq, Bool.not_eq_true', decide_eq_false_iff_not]
    repeat' split
    all_goals first | omega | (simp at *; omega) | (simp_all; done) | (simp_all; omega)
  · rw [rv_6p] at *; simp only [up_outward]
    generalize 1 * (2 * d - (d - 1)) = n at *
    generalize n % d = r at *; generalize n / d = q at *
    try simp only [decide_eq_true_eq, Bool.not_eq_true', decide_eq_false_iff_not]
    repeat' split
    all_goals first | omega | (simp at *; omega) | (simp_all; done) | (simp_all; omega)
  · rw [rv_6n] at *; simp only [up_outward]
    generalize -1 * (2 * d - (d - 1)) = n at *
    generalize n % d = r at *; generalize n / d = q at *
    try simp only [decide_eq_true_eq, Bool.not_eq_true', decide_eq_false_iff_not]
    repeat' split
    all_goals first | omega | (simp at *; omega) | (simp_all; done) | (simp_all; omega)
  · rw [rv_7p] at *; simp only [up_upward]
    generalize 1 * (2 * d - (d - 1)) = n at *
    generalize n % d = r at *; generalize n / d = q at *
    try simp only [decide_eq_true_eq, Bool.not_eq_true', decide_eq_false_iff_not]
    repeat' split
    all_goals first | omega | (simp at *; omega) | (simp_all; done) | (simp_all; omega)
  · rw [rv_7n] at *; simp only [up_upward]
    generalize -1 * (2 * d - 0) = n at *
    generalize n % d = r at *; generalize n / d = q at *
    try simp only [decide_eq_true_eq, Bool.not_eq_true', decide_eq_false_iff_not]
    repeat' split
    all_goals first | omega | (simp at *; omega) | (simp_all; done) | (simp_all; omega)
  · rw [rv_8p] at *; simp only [up_downward]
    generalize 1 * (2 * d - 0) = n at *
    generalize n % d = r at *; generalize n / d = q at *
    try simp only [decide_eq_true_eq, Bool.not_eq_true', decide_eq_false_iff_not]
    repeat' split
    all_goals first | omega | (simp at *; omega) | (simp_all; done) | (simp_all; omega)
  · rw [rv_8n] at *; simp only [up_downward]
    generalize -1 * (2 * d - (d - 1)) = n at *
    generalize n % d = r at *; generalize n / d = q at *
    try simp only [decide_eq_true_eq, Bool.not_eq_true', decide_eq_false_iff_not]
    repeat' split
    all_goals first | omega | (simp at *; omega) | (simp_all; done) | (simp_all; omega)
/-! the walks -/
def spTieUp : Sp := fun vs H Q _ => ∃ (m : Str) (q : Int) (b : Bool), vs = [.str m, .int q, .bl b] ∧ Q (.bl (tieUp m q b)) H
theorem tieUp_do {m : Str} {q : Int} {b : Bool} {H : Hp} {Q : VK} {E : XK} (h : Q (.bl (tieUp m q b)) H) : spTieUp [.str m, .int q, .bl b] H Q E := ⟨m, q, b, rfl, h⟩
def spRound : Sp := fun vs H Q _ => ∃ (m : Str) (n d : Int), vs = [.int n, .int d, .str m] ∧ m ∈ modes ∧ 2 ≤ d ∧ d ≤ 36 ∧ ∀ H', Same H H' → Q (.int (roundF m n d)) H'
theorem round_do {m : Str} {n d : Int} {H : Hp} {Q : VK} {E : XK} (hm : m ∈ modes) (h1 : 2 ≤ d) (h2 : d ≤ 36) (h : ∀ H', Same H H' → Q (.int (roundF m n d)) H') : spRound [.int n, .int d, .str m] H Q E := ⟨m, n, d, rfl, hm, h1, h2, h⟩
def spChosen : Sp := fun vs H Q _ => ∃ (m : Str) (n d r : Int), vs = [.int n, .int d, .str m, .int r] ∧ 2 ≤ d ∧ d ≤ 36 ∧ n < 10 ^ 40 ∧ -(10 ^ 40) < n ∧ r < 10 ^ 40 ∧ -(10 ^ 40) < r ∧ Q (.bl (chosenF n d m r)) H
theorem chosen_do {m : Str} {n d r : Int} {H : Hp} {Q : VK} {E : XK} (h1 : 2 ≤ d) (h2 : d ≤ 36) (h3 : n < 10 ^ 40) (h4 : -(10 ^ 40) < n) (h5 : r < 10 ^ 40) (h6 : -(10 ^ 40) < r) (h : Q (.bl (chosenF n d m r)) H) : spChosen [.int n, .int d, .str m, .int r] H Q E := ⟨m, n, d, r, rfl, h1, h2, h3, h4, h5, h6, h⟩
local macro_rules | `(tactic| fail "zP") => `(tactic| (with_reducible first | refine tieUp_do ?_ | refine chk_do (fun _ => ?_) (fun h => absurd (by assumption) h)))
theorem ok_tieUp {f : Addr} {fd : FuncData} (F : Fun K "tie_goes_up" "tie_goes_up" S_tie_goes_up f fd) (B : Blt mg) : FnOk P w K mg base (L2N.CX P w) 1 f fd ["mode", "low", "positive"] spTieUp := by
  have S := nk_tie_goes_up
  refine F.okN sc_tie_goes_up (fun vs H Q E h => ?_) (fun cdv A outer s H vs Q E hr h => ?_)
  · obtain ⟨z, q, b, rfl, _⟩ := h; rfl
  · obtain ⟨m, q, b, rfl, hQ⟩ := h
    show ZSs _ _ _ _ _ _ [some (.str m), some (.int q), some (.bl b)] H
    fail "z0"
    all_goals (unfold tieUp at hQ; simp_all)
theorem ok_round {f C aN : Addr} {fd : FuncData} (F : Fun K "round_quotient" "round_quotient" S_round_quotient f fd) (B : Blt mg) (gN : mg "NEAREST" = some (.ref aN)) (tN : ∀ H, SqT K H aN (nears.map V.str)) (cC : Cal P w K mg base 2 "check_mode" (spChk C)) (cU : Cal P w K mg base 1 "goes_up" spUp) (cT : Cal P w K mg base 1 "tie_goes_up" spTieUp) : FnOk P w K mg base (L2N.CX P w) 3 f fd ["numerator", "divisor", "mode"] spRound := by
  have S := nk_round_quotient
  refine F.okN sc_round_quotient (fun vs H Q E h => ?_) (fun cdv A outer s H vs Q E hr h => ?_)
  · obtain ⟨m, n, d, rfl, _⟩ := h; rfl
  · obtain ⟨m, n, d, rfl, hm, h1, h2, hQ⟩ := h
    have tN1 := fun H' => tN H'
    show ZSs _ _ _ _ _ _ [some (.int n), some (.int d), some (.str m), none, none, none, none] H
    fail "z0"
    all_goals
      refine' Eq.subst (motive := fun z => Q (.int z) _) ?eqq (hQ _ ?smm)
      case smm => fail "zsm"
      case eqq => (unfold roundF upF; simp_all [inV_str] <;> (intros; omega))
theorem ok_chosen {f : Addr} {fd : FuncData} (F : Fun K "_law_chosen" "_law_chosen" S__law_chosen f fd) (B : Blt mg) : FnOk P w K mg base (L2N.CX P w) 1 f fd ["numerator", "divisor", "mode", "result"] spChosen := by
  have S := nk__law_chosen
  refine F.okN sc__law_chosen (fun vs H Q E h => ?_) (fun cdv A outer s H vs Q E hr h => ?_)
  · obtain ⟨m, n, d, r, rfl, _⟩ := h; rfl
  · obtain ⟨m, n, d, r, rfl, h1, h2, h3, h4, h5, h6, hQ⟩ := h
    show ZSs _ _ _ _ _ _ [some (.int n), some (.int d), some (.str m), some (.int r), none, none] H
    fail "z0"
    all_goals
      refine' Eq.subst (motive := fun z => Q (.bl z) H) ?eqq hQ
      case eqq => (unfold chosenF absI; simp_all <;> first | omega | (rw [Bool.eq_iff_iff]; simp; omega))
def spBig : Sp := fun vs H Q _ => ∃ p, vs = [.ref p] ∧ Src H p ∧ ∀ v, 0 ≤ v → v < 10 ^ 31 → Q (.int v) H
theorem big_do {p : Addr} {H : Hp} {Q : VK} {E : XK} (h0 : Src H p) (h : ∀ v, 0 ≤ v → v < 10 ^ 31 → Q (.int v) H) : spBig [.ref p] H Q E := ⟨p, rfl, h0, h⟩
def spBB : Sp := fun vs H Q _ => ∃ p, vs = [.ref p] ∧ Src H p ∧ ∀ b, ¬ (2 ≤ b ∧ b ≤ 36) → Q (.int b) H
theorem bb_do {p : Addr} {H : Hp} {Q : VK} {E : XK} (h0 : Src H p) (h : ∀ b, ¬ (2 ≤ b ∧ b ≤ 36) → Q (.int b) H) : spBB [.ref p] H Q E := ⟨p, rfl, h0, h⟩
theorem ok_big {f : Addr} {fd : FuncData} (F : Fun K "_law_big" "_law_big" S__law_big f fd) (B : Blt mg) (cD : Cal P w K mg base 1 "_law_draw" spDraw) : FnOk P w K mg base (L2N.CX P w) 2 f fd ["source"] spBig := by
  have S := nk__law_big
  refine F.okN sc__law_big (fun vs H Q E h => ?_) (fun cdv A outer s H vs Q E hr h => ?_)
  · obtain ⟨p, rfl, _⟩ := h; rfl
  · obtain ⟨p, rfl, hs, hQ⟩ := h
    show ZSs _ _ _ _ _ _ [some (.ref p), none, none] H
    fail "z0"
    refine zs_forR pass_def rfl B.range ?_
    fail "za"
    rename_i c c0 c9
    refine ⟨by omega, by omega, fun i σ H' => ∃ o v, σ = [some (.ref p), some (.int v), o] ∧ H' = H ∧ 0 ≤ v ∧ v < 10 ^ i, ⟨_, _, rfl, rfl, by decide, by decide⟩, ?_, ?_⟩
    · rintro i σ H' hi ⟨o, v, rfl, rfl, v0, v9⟩
      fail "za"
      exact ⟨_, _, rfl, rfl, by omega, by rw [Int.pow_succ]; omega⟩
    · rintro σ H' ⟨o, v, rfl, rfl, v0, v9⟩
      fail "za"
      refine hQ _ v0 (Int.lt_of_lt_of_le v9 ?_)
      have := Nat.pow_le_pow_right (show 0 < 10 by decide) (show c.toNat ≤ 31 by omega)
      exact_mod_cast this
theorem ok_bb {f : Addr} {fd : FuncData} (F : Fun K "_law_bad_base" "_law_bad_base" S__law_bad_base f fd) (B : Blt mg) (cD : Cal P w K mg base 1 "_law_draw" spDraw) : FnOk P w K mg base (L2N.CX P w) 2 f fd ["source"] spBB := by
  have S := nk__law_bad_base
  refine F.okN sc__law_bad_base (fun vs H Q E h => ?_) (fun cdv A outer s H vs Q E hr h => ?_)
  · obtain ⟨p, rfl, _⟩ := h; rfl
  · obtain ⟨p, rfl, hs, hQ⟩ := h
    show ZSs _ _ _ _ _ _ [some (.ref p), none] H
    fail "z0"
    all_goals refine hQ _ ?_
    · omega
    · omega
    · rename_i x x0 x9 y y0 y9
      have : y = 0 ∨ y = 1 := by omega
      rcases this with rfl | rfl <;> omega
structure Errs (P : Program) (K : PySem.W.Frag) (mg : Str → Option Value) (C CL CB : Addr) : Prop where
  cM : XCls P K mg "BadMode" C ["mode"]
  cB : XCls P K mg "BadBase" CB ["base"]
  gL : mg "LostError" = some (.ref CL)
  tM : PySem.W.exmOne K (.ref C) (.ref CL) = some true
  tB : PySem.W.exmOne K (.ref CB) (.ref CL) = some true
  i1 : PySem.W.kitOne K (.ref C) (.ref C) = some true
  i2 : PySem.W.kitOne K (.ref C) (.ref CB) = some false
  i3 : PySem.W.kitOne K (.ref CB) (.ref C) = some false
  i4 : PySem.W.kitOne K (.ref CB) (.ref CB) = some true
  i5 : PySem.W.kitOne K (.ref C) (.type "ValueError") = some true
  i6 : PySem.W.kitOne K (.ref CB) (.type "ValueError") = some true
  nM : PySem.W.findIn K (.ref C) "mode" = some none
  nB : PySem.W.findIn K (.ref CB) "base" = some none
def spRefu : Sp := fun vs H Q _ => ∃ (m : Str) (b s : Int), vs = [.str m, .int b, .int s] ∧ (m ∈ modes → ¬ (2 ≤ b ∧ b ≤ 36)) ∧ (m ∉ modes → ∀ p H', NoA H p → Same H H' → H' p = some (.tup [.str "mode", .str m]) → Q (.ref p) H') ∧
  (m ∈ modes → ∀ p H', NoA H p → Same H H' → H' p = some (.tup [.str "base", .int b]) → Q (.ref p) H')
theorem refu_bad {m : Str} {b s : Int} {H : Hp} {Q : VK} {E : XK} (hm : m ∉ modes) (h : ∀ p H', NoA H p → Same H H' → H' p = some (.tup [.str "mode", .str m]) → Q (.ref p) H') : spRefu [.str m, .int b, .int s] H Q E := ⟨m, b, s, rfl, fun z => absurd z hm, fun _ => h, fun z => absurd z hm⟩
theorem refu_base {m : Str} {b s : Int} {H : Hp} {Q : VK} {E : XK} (hm : m ∈ modes) (hb : ¬ (2 ≤ b ∧ b ≤ 36)) (h : ∀ p H', NoA H p → Same H H' → H' p = some (.tup [.str "base", .int b]) → Q (.ref p) H') : spRefu [.str m, .int b, .int s] H Q E := ⟨m, b, s, rfl, fun _ => hb, fun z => absurd hm z, fun _ => h⟩
local macro_rules | `(tactic| fail "zP") => `(tactic| (with_reducible refine reach_do (fun _ _ => ?_) (fun _ _ _ => ?_) (fun _ _ _ _ => ?_)))
theorem ok_refu {f C CL CB : Addr} {fd : FuncData} (F : Fun K "_law_refusal" "_law_refusal" S__law_refusal f fd) (B : Blt mg) (T : Errs P K mg C CL CB) (cR : Cal P w K mg base 4 "reach" (spReach C CB)) : FnOk P w K mg base (L2N.CX P w) 5 f fd ["mode", "base", "sign"] spRefu := by
  have S := nk__law_refusal
  obtain ⟨cM, cB, gL, tM, tB, i1, i2, i3, i4, i5, i6, nM, nB⟩ := T
  have T1 := cM.T
  have T2 := cB.T
  have gC := cM.gC
  have gB := cB.gC
  refine F.okN sc__law_refusal (fun vs H Q E h => ?_) (fun cdv A outer s H vs Q E hr h => ?_)
  · obtain ⟨m, b, s, rfl, _⟩ := h; rfl
  · obtain ⟨m, b, s, rfl, hb, hQ1, hQ2⟩ := h
    show ZSs _ _ _ _ _ _ [some (.str m), some (.int b), some (.int s), none] H
    refine zss_cons ?_
    refine s_try (i := 3) gL S ⟨rfl, rfl, rfl, rfl, rfl, rfl⟩ ⟨rfl, rfl⟩ rfl rfl rfl rfl rfl (by decide) fun pn xe tk hp => ?_
    fail "z0"
    · exact absurd (by assumption) (hb (by assumption))
    all_goals
      have hd := (‹NoA H _›).e
      first
      | refine tk _ _ _ _ ⟨true, tM, fun _ a na oe pn hz hf => ?_, fun h => nomatch h⟩
      | refine tk _ _ _ _ ⟨true, tB, fun _ a na oe pn hz hf => ?_, fun h => nomatch h⟩
      show ZSs _ _ _ _ _ _ [some (.str m), some (.int b), some (.int s), some (.ref a)] _
      refine zss_cons ?_
      fail "za"
      first
      | exact hQ1 (by assumption) _ _ ⟨by fail "zno"⟩ (by fail "zsm") upd_same
      | exact hQ2 (by assumption) _ _ ⟨by fail "zno"⟩ (by fail "zsm") upd_same
def spReached : Sp := fun vs H Q _ => ∃ (m : Str) (b s n : Int), vs = [.str m, .int b, .int s, .int n] ∧ m ∈ modes ∧ 2 ≤ b ∧ b ≤ 36 ∧ (s = 1 ∨ s = -1) ∧ 0 < n ∧ n < 10 ^ 34 ∧ ∀ H', Same H H' → Q (.bl true) H'
theorem reached_do {m : Str} {b s n : Int} {H : Hp} {Q : VK} {E : XK} (hm : m ∈ modes) (h1 : 2 ≤ b) (h2 : b ≤ 36) (hs : s = 1 ∨ s = -1) (h3 : 0 < n) (h4 : n < 10 ^ 34) (h : ∀ H', Same H H' → Q (.bl true) H') : spReached [.str m, .int b, .int s, .int n] H Q E := ⟨m, b, s, n, rfl, hm, h1, h2, hs, h3, h4, h⟩
theorem round_small {m : Str} (hm : m ∈ modes) {s size d : Int} (hs : s = 1 ∨ s = -1) (hd : 2 ≤ d) (hd9 : d ≤ 36) (hz : 0 < size) : absI (roundF m (s * size) d) ≤ size + 36 := by
  have g := grow_le hm hs hd hz
  have r := (reach_lt hm hs hd).2
  have h0 : 0 ≤ absI (roundF m (s * size) d) := by unfold absI; split <;> omega
  have h1 : absI (roundF m (s * size) d) * 1 ≤ absI (roundF m (s * size) d) * d := Int.mul_le_mul_of_nonneg_left (by omega) h0
  omega
local macro_rules | `(tactic| fail "zP") => `(tactic| (with_reducible first | refine reach_do (fun _ _ => ?_) (fun h => absurd (by assumption) h) (fun _ h => absurd ⟨by assumption, by assumption⟩ h) | refine round_do (by assumption) (by assumption) (by assumption) (fun _ _ => ?_)))
theorem ok_reached {f C CB : Addr} {fd : FuncData} (F : Fun K "_law_reached" "_law_reached" S__law_reached f fd) (B : Blt mg) (cR : Cal P w K mg base 4 "reach" (spReach C CB)) (cQ : Cal P w K mg base 3 "round_quotient" spRound) (cC : Cal P w K mg base 1 "_law_chosen" spChosen) : FnOk P w K mg base (L2N.CX P w) 5 f fd ["mode", "base", "sign", "whole"] spReached := by
  have S := nk__law_reached
  refine F.okN sc__law_reached (fun vs H Q E h => ?_) (fun cdv A outer s H vs Q E hr h => ?_)
  · obtain ⟨m, b, s, n, rfl, _⟩ := h; rfl
  · obtain ⟨m, b, s, n, rfl, hm, h1, h2, hs, h3, h4, hQ⟩ := h
    have rl := reach_lt hm hs h1
    show ZSs _ _ _ _ _ _ [some (.str m), some (.int b), some (.int s), some (.int n), none, none, none, none] H
    fail "z0"
    all_goals try (exfalso; omega)
    refine zs_forL pass_def rfl ?_
    fail "za"
    rename_i ps nps
    refine ⟨ps, _, rfl, SqL.of upd_same, fun t σ H' => ∃ g sz r, σ = [some (.str m), some (.int b), some (.int s), some (.int n), some (.int (reachF m b s)), some (.int g), sz, r] ∧ Same (upd H ps (.lst [.int n, .int (2 * b - reachF m b s - 1), .int (2 * b - reachF m b s)])) H' ∧ (t = 3 → g = reachF m b s), ⟨_, _, _, rfl, Same.refl _, fun h => nomatch h⟩, ?_, ?_, ?_⟩
    · rintro t σ H4 _ ⟨g, sz, r, rfl, s4, _⟩
      exact SqL.of (s4 _ _ upd_same)
    · rintro t y σ H4 hy ⟨g, sz, r, rfl, s4, _⟩
      obtain ⟨z, z0, z9, zt, rfl⟩ : ∃ z : Int, 0 < z ∧ z < 10 ^ 35 ∧ (t = 2 → z = 2 * b - reachF m b s) ∧ y = .int z := by
        match t, hy with
        | 0, hy => exact ⟨n, h3, by omega, fun h => (nomatch h), by simpa using hy.symm⟩
        | 1, hy => exact ⟨2 * b - reachF m b s - 1, by omega, by omega, fun h => absurd h (by decide), by simpa using hy.symm⟩
        | 2, hy => exact ⟨2 * b - reachF m b s, by omega, by omega, fun _ => rfl, by simpa using hy.symm⟩
        | t + 3, hy => simp at hy
      have hsz : s * z = z ∨ s * z = -z := by rcases hs with rfl | rfl <;> omega
      have rs := round_small hm hs h1 h2 z0
      have gl := grow_le hm hs h1 z0
      have ge := grow_eq hm hs h1
      have ck := chosen_ok hm (s * z) b (by omega) (by omega)
      have ab : -(absI (roundF m (s * z) b)) ≤ roundF m (s * z) b ∧ roundF m (s * z) b ≤ absI (roundF m (s * z) b) := by unfold absI; split <;> omega
      fail "za"
      refine chosen_do h1 h2 (by omega) (by omega) (by omega) (by omega) ?_
      rw [ck]
      fail "za"
      · exfalso
        have : (if roundF m (s * z) b < 0 then -roundF m (s * z) b else roundF m (s * z) b) = absI (roundF m (s * z) b) := rfl
        simp only [this] at *
        omega
      · refine ⟨_, _, _, rfl, by fail "zsm", fun ht => ?_⟩
        have zz := zt (by omega)
        subst zz
        exact ge
    · rintro σ H4 ⟨g, sz, r, rfl, s4, hg⟩
      have hg := hg rfl
      subst hg
      fail "za"
      rw [decide_eq_true rfl]
      exact hQ _ (by fail "zsm")
local macro_rules | `(tactic| fail "zP") => `(tactic| (with_reducible first | refine big_do (by fail "zsrc") (fun _ _ _ => ?_) | refine bb_do (by fail "zsrc") (fun _ _ => ?_) | refine reached_do (by assumption) (by assumption) (by assumption) (by assumption) (by assumption) (by assumption) (fun _ _ => ?_) | refine refu_bad (by assumption) (fun _ _ _ _ _ => ?_) | refine refu_base (by assumption) (by assumption) (fun _ _ _ _ _ => ?_)))
local macro_rules | `(tactic| fail "zP") => `(tactic| (with_reducible refine' src_do ?h1 ?h2 (fun _ _ _ _ _ => ?h)); (case h1 => assumption); (case h2 => omega))
local macro_rules | `(tactic| fail "zP") => `(tactic| (refine equal_do (.tupS (SqT.of (by fail "zh")) (SqT.of (by fail "zh")) (Nat.le_of_ble_eq_true rfl) (by fail "zsc")) ?_))
theorem ok_law {f : Addr} {fd : FuncData} (F : Fun K "law" "law" S_law f fd) (B : Blt mg) (cS : Cal P w K mg base 1 "_law_source" (spSrc K)) (cDr : Cal P w K mg base 1 "_law_draw" spDraw) (cBa : Cal P w K mg base 2 "_law_base" spBase) (cBig : Cal P w K mg base 2 "_law_big" spBig) (cO : Cal P w K mg base 3 "_law_odd_mode" spOdd) (cBB : Cal P w K mg base 2 "_law_bad_base" spBB)
    (cMs : Cal P w K mg base 1 "_law_modes" spModes) (cRd : Cal P w K mg base 5 "_law_reached" spReached) (cRf : Cal P w K mg base 5 "_law_refusal" spRefu) (cE : Cal P w K mg base 2 "_law_equal" (spEq K 1)) : FnOk P w K mg base (L2N.CX P w) 6 f fd ["script"] (spLaw K) := by
  have S := nk_law
  refine F.okN sc_law (fun vs H Q E h => ?_) (fun cdv A outer s H vs Q E hr h => ?_)
  · obtain ⟨a, ns, rfl, _⟩ := h; rfl
  · obtain ⟨a, ns, rfl, hs, hl, hQ⟩ := h
    show ZSs _ _ _ _ _ _ [some (.ref a), none, none, none, none, none, none, none] H
    fail "z0"
    rename_i src H1 n1 s1 hsrc b H2 b1 b2 s2 v v0 v9 d d0 d9 z H3 hz s3 bad hbad
    have w0 : 0 ≤ b * v := Int.mul_nonneg (by omega) v0
    have w9 : b * v ≤ 36 * v := Int.mul_le_mul_of_nonneg_right (by omega) v0
    have wp : 0 < 1 + b * v + d := by omega
    have wq : 1 + b * v + d < 10 ^ 34 := by omega
    generalize 1 + b * v + d = n at *
    refine zs_forL pass_def rfl ?_
    fail "za"
    rename_i pm H4 n4 s4 hpm
    refine ⟨pm, modes.map V.str, rfl, SqL.of hpm, fun j σ H' => ∃ m sg, σ = [some (.ref a), some (.ref src), some (.int b), some (.int n), some (.str z), some (.int bad), m, sg] ∧ Same H4 H', ⟨_, _, rfl, Same.refl _⟩, ?_, ?_, ?_⟩
    · rintro j σ H5 _ ⟨m, sg, rfl, s5⟩
      exact SqL.of (s5 _ _ hpm)
    · rintro j y σ H5 hy ⟨m0, sg, rfl, s5⟩
      obtain ⟨m, hm, rfl⟩ := map_get hy
      have hm := List.mem_of_getElem? hm
      fail "za"
      refine zs_forL pass_def rfl ?_
      fail "za"
      rename_i ps nps
      refine ⟨ps, _, rfl, SqL.of upd_same, fun t σ H' => ∃ sg, σ = [some (.ref a), some (.ref src), some (.int b), some (.int n), some (.str z), some (.int bad), some (.str m), sg] ∧ Same (upd H5 ps (.lst [.int 1, .int (0 - 1)])) H', ⟨_, rfl, Same.refl _⟩, ?_, ?_, ?_⟩
      · rintro t σ H6 _ ⟨sg, rfl, s6⟩
        exact SqL.of (s6 _ _ upd_same)
      · rintro t y σ H6 hy ⟨sg, rfl, s6⟩
        obtain ⟨s, hs, rfl⟩ : ∃ s : Int, (s = 1 ∨ s = -1) ∧ y = .int s := by
          match t, hy with
          | 0, hy => exact ⟨1, .inl rfl, by simpa using hy.symm⟩
          | 1, hy => exact ⟨-1, .inr rfl, by simpa using hy.symm⟩
          | t + 2, hy => simp at hy
        fail "za"
        fail "zsm"
      · rintro σ H6 ⟨sg, rfl, s6⟩
        fail "za"
        refine ⟨_, _, rfl, ?_⟩
        fail "zsm"
    · rintro σ H5 ⟨m, sg, rfl, s5⟩
      fail "za"
      exact hQ _

theorem all_mk {w : World} {K : PySem.W.Frag} {h : Heap} {mg : Str → Option Value} {fa : Addr} (X : K.In h) (G : h.Ns mainGlobals mg) (hfa : mg "law" = some (.ref fa))
    {f_check_base f_check_mode f_goes_up f_direction f_tie_goes_out f_reach f_tie_goes_up f_round_quotient f__law_source f__law_draw f__law_modes f__law_mode f__law_base f__law_equal f__law_big f__law_odd_mode f__law_chosen f__law_bad_base f__law_refusal f__law_reached f_law f_LostError f_MODES f_NEAREST f_BadMode i_BadMode N_BadMode cda_BadMode cc_BadMode f_BadBase i_BadBase N_BadBase cda_BadBase cc_BadBase : Addr}
    {od_check_base an_check_base od_check_mode an_check_mode od_goes_up an_goes_up od_direction an_direction od_tie_goes_out an_tie_goes_out od_reach an_reach od_tie_goes_up an_tie_goes_up od_round_quotient an_round_quotient od__law_source an__law_source od__law_draw an__law_draw od__law_modes an__law_modes od__law_mode an__law_mode od__law_base an__law_base od__law_equal an__law_equal od__law_big an__law_big od__law_odd_mode an__law_odd_mode od__law_chosen an__law_chosen od__law_bad_base an__law_bad_base od__law_refusal an__law_refusal od__law_reached an__law_reached od_law an_law dd_BadMode od_BadMode an_BadMode ccd_BadMode cld_BadMode dd_BadBase od_BadBase an_BadBase ccd_BadBase cld_BadBase : Option Addr}
    {sl_check_base sl_check_mode sl_goes_up sl_direction sl_tie_goes_out sl_reach sl_tie_goes_up sl_round_quotient sl__law_source sl__law_draw sl__law_modes sl__law_mode sl__law_base sl__law_equal sl__law_big sl__law_odd_mode sl__law_chosen sl__law_bad_base sl__law_refusal sl__law_reached sl_law sl_BadMode ccs_BadMode csl_BadMode sl_BadBase ccs_BadBase csl_BadBase : Array (Option Value)}
    {oc_check_base kV_check_base dc_check_base pm_check_base cd_check_base ct_check_base oc_check_mode kV_check_mode dc_check_mode pm_check_mode cd_check_mode ct_check_mode oc_goes_up kV_goes_up dc_goes_up pm_goes_up cd_goes_up ct_goes_up oc_direction kV_direction dc_direction pm_direction cd_direction ct_direction oc_tie_goes_out kV_tie_goes_out dc_tie_goes_out pm_tie_goes_out cd_tie_goes_out ct_tie_goes_out oc_reach kV_reach dc_reach pm_reach cd_reach ct_reach oc_tie_goes_up kV_tie_goes_up dc_tie_goes_up pm_tie_goes_up cd_tie_goes_up ct_tie_goes_up oc_round_quotient kV_round_quotient dc_round_quotient pm_round_quotient cd_round_quotient ct_round_quotient oc__law_source kV__law_source dc__law_source pm__law_source cd__law_source ct__law_source oc__law_draw kV__law_draw dc__law_draw pm__law_draw cd__law_draw ct__law_draw oc__law_modes kV__law_modes dc__law_modes pm__law_modes cd__law_modes ct__law_modes oc__law_mode kV__law_mode dc__law_mode pm__law_mode cd__law_mode ct__law_mode oc__law_base kV__law_base dc__law_base pm__law_base cd__law_base ct__law_base oc__law_equal kV__law_equal dc__law_equal pm__law_equal cd__law_equal ct__law_equal oc__law_big kV__law_big dc__law_big pm__law_big cd__law_big ct__law_big oc__law_odd_mode kV__law_odd_mode dc__law_odd_mode pm__law_odd_mode cd__law_odd_mode ct__law_odd_mode oc__law_chosen kV__law_chosen dc__law_chosen pm__law_chosen cd__law_chosen ct__law_chosen oc__law_bad_base kV__law_bad_base dc__law_bad_base pm__law_bad_base cd__law_bad_base ct__law_bad_base oc__law_refusal kV__law_refusal dc__law_refusal pm__law_refusal cd__law_refusal ct__law_refusal oc__law_reached kV__law_reached dc__law_reached pm__law_reached cd__law_reached ct__law_reached oc_law kV_law dc_law pm_law cd_law ct_law oc_BadMode kV_BadMode dc_BadMode pm_BadMode ct_BadMode ccl_BadMode cl_BadMode oc_BadBase kV_BadBase dc_BadBase pm_BadBase ct_BadBase ccl_BadBase cl_BadBase : Value}
    {dd_MODES : Option Addr}
    {its_MODES : Array Value}
    {n_MODES : Nat}
    {sl_MODES : Array (Option Value)}
    {dd_NEAREST : Option Addr}
    {its_NEAREST : Array Value}
    {n_NEAREST : Nat}
    {sl_NEAREST : Array (Option Value)}
    {nm_BadMode q_BadMode : Str}
    {bs_BadMode bm_BadMode sub_BadMode : List Value}
    {sn_BadMode : List Str}
    {ab_BadMode : Bool}
    {col_BadMode : Option Bool}
    {m0_BadMode m1_BadMode m2_BadMode m3_BadMode m5_BadMode : Option Value}
    {vs_BadMode : Array Value}
    {fl_BadMode : Str}
    {tf_BadMode : Tok}
    {nm_BadBase q_BadBase : Str}
    {bs_BadBase bm_BadBase sub_BadBase : List Value}
    {sn_BadBase : List Str}
    {ab_BadBase : Bool}
    {col_BadBase : Option Bool}
    {m0_BadBase m1_BadBase m2_BadBase m3_BadBase m5_BadBase : Option Value}
    {vs_BadBase : Array Value}
    {fl_BadBase : Str}
    {tf_BadBase : Tok}
    (a_check_base : PySem.W.nsIn K mainGlobals "check_base" = some (some (.ref f_check_base)))
    (l_check_base : K.lookup f_check_base = some ⟨oc_check_base, od_check_base, .func (PySem.W.fnOf "check_base" "check_base" (defArgs S_check_base) (defBody S_check_base) (defScope S_check_base) .none kV_check_base dc_check_base pm_check_base an_check_base cd_check_base ct_check_base), sl_check_base⟩)
    (c_check_base : PySem.W.codeIn K cd_check_base "check_base" = true)
    (k_check_base : PySem.W.keepIn K (.ref f_check_base) = true)
    (a_check_mode : PySem.W.nsIn K mainGlobals "check_mode" = some (some (.ref f_check_mode)))
    (l_check_mode : K.lookup f_check_mode = some ⟨oc_check_mode, od_check_mode, .func (PySem.W.fnOf "check_mode" "check_mode" (defArgs S_check_mode) (defBody S_check_mode) (defScope S_check_mode) .none kV_check_mode dc_check_mode pm_check_mode an_check_mode cd_check_mode ct_check_mode), sl_check_mode⟩)
    (c_check_mode : PySem.W.codeIn K cd_check_mode "check_mode" = true)
    (k_check_mode : PySem.W.keepIn K (.ref f_check_mode) = true)
    (a_goes_up : PySem.W.nsIn K mainGlobals "goes_up" = some (some (.ref f_goes_up)))
    (l_goes_up : K.lookup f_goes_up = some ⟨oc_goes_up, od_goes_up, .func (PySem.W.fnOf "goes_up" "goes_up" (defArgs S_goes_up) (defBody S_goes_up) (defScope S_goes_up) .none kV_goes_up dc_goes_up pm_goes_up an_goes_up cd_goes_up ct_goes_up), sl_goes_up⟩)
    (c_goes_up : PySem.W.codeIn K cd_goes_up "goes_up" = true)
    (k_goes_up : PySem.W.keepIn K (.ref f_goes_up) = true)
    (a_direction : PySem.W.nsIn K mainGlobals "direction" = some (some (.ref f_direction)))
    (l_direction : K.lookup f_direction = some ⟨oc_direction, od_direction, .func (PySem.W.fnOf "direction" "direction" (defArgs S_direction) (defBody S_direction) (defScope S_direction) .none kV_direction dc_direction pm_direction an_direction cd_direction ct_direction), sl_direction⟩)
    (c_direction : PySem.W.codeIn K cd_direction "direction" = true)
    (k_direction : PySem.W.keepIn K (.ref f_direction) = true)
    (a_tie_goes_out : PySem.W.nsIn K mainGlobals "tie_goes_out" = some (some (.ref f_tie_goes_out)))
    (l_tie_goes_out : K.lookup f_tie_goes_out = some ⟨oc_tie_goes_out, od_tie_goes_out, .func (PySem.W.fnOf "tie_goes_out" "tie_goes_out" (defArgs S_tie_goes_out) (defBody S_tie_goes_out) (defScope S_tie_goes_out) .none kV_tie_goes_out dc_tie_goes_out pm_tie_goes_out an_tie_goes_out cd_tie_goes_out ct_tie_goes_out), sl_tie_goes_out⟩)
    (c_tie_goes_out : PySem.W.codeIn K cd_tie_goes_out "tie_goes_out" = true)
    (k_tie_goes_out : PySem.W.keepIn K (.ref f_tie_goes_out) = true)
    (a_reach : PySem.W.nsIn K mainGlobals "reach" = some (some (.ref f_reach)))
    (l_reach : K.lookup f_reach = some ⟨oc_reach, od_reach, .func (PySem.W.fnOf "reach" "reach" (defArgs S_reach) (defBody S_reach) (defScope S_reach) .none kV_reach dc_reach pm_reach an_reach cd_reach ct_reach), sl_reach⟩)
    (c_reach : PySem.W.codeIn K cd_reach "reach" = true)
    (k_reach : PySem.W.keepIn K (.ref f_reach) = true)
    (a_tie_goes_up : PySem.W.nsIn K mainGlobals "tie_goes_up" = some (some (.ref f_tie_goes_up)))
    (l_tie_goes_up : K.lookup f_tie_goes_up = some ⟨oc_tie_goes_up, od_tie_goes_up, .func (PySem.W.fnOf "tie_goes_up" "tie_goes_up" (defArgs S_tie_goes_up) (defBody S_tie_goes_up) (defScope S_tie_goes_up) .none kV_tie_goes_up dc_tie_goes_up pm_tie_goes_up an_tie_goes_up cd_tie_goes_up ct_tie_goes_up), sl_tie_goes_up⟩)
    (c_tie_goes_up : PySem.W.codeIn K cd_tie_goes_up "tie_goes_up" = true)
    (k_tie_goes_up : PySem.W.keepIn K (.ref f_tie_goes_up) = true)
    (a_round_quotient : PySem.W.nsIn K mainGlobals "round_quotient" = some (some (.ref f_round_quotient)))
    (l_round_quotient : K.lookup f_round_quotient = some ⟨oc_round_quotient, od_round_quotient, .func (PySem.W.fnOf "round_quotient" "round_quotient" (defArgs S_round_quotient) (defBody S_round_quotient) (defScope S_round_quotient) .none kV_round_quotient dc_round_quotient pm_round_quotient an_round_quotient cd_round_quotient ct_round_quotient), sl_round_quotient⟩)
    (c_round_quotient : PySem.W.codeIn K cd_round_quotient "round_quotient" = true)
    (k_round_quotient : PySem.W.keepIn K (.ref f_round_quotient) = true)
    (a__law_source : PySem.W.nsIn K mainGlobals "_law_source" = some (some (.ref f__law_source)))
    (l__law_source : K.lookup f__law_source = some ⟨oc__law_source, od__law_source, .func (PySem.W.fnOf "_law_source" "_law_source" (defArgs S__law_source) (defBody S__law_source) (defScope S__law_source) .none kV__law_source dc__law_source pm__law_source an__law_source cd__law_source ct__law_source), sl__law_source⟩)
    (c__law_source : PySem.W.codeIn K cd__law_source "_law_source" = true)
    (k__law_source : PySem.W.keepIn K (.ref f__law_source) = true)
    (a__law_draw : PySem.W.nsIn K mainGlobals "_law_draw" = some (some (.ref f__law_draw)))
    (l__law_draw : K.lookup f__law_draw = some ⟨oc__law_draw, od__law_draw, .func (PySem.W.fnOf "_law_draw" "_law_draw" (defArgs S__law_draw) (defBody S__law_draw) (defScope S__law_draw) .none kV__law_draw dc__law_draw pm__law_draw an__law_draw cd__law_draw ct__law_draw), sl__law_draw⟩)
    (c__law_draw : PySem.W.codeIn K cd__law_draw "_law_draw" = true)
    (k__law_draw : PySem.W.keepIn K (.ref f__law_draw) = true)
    (a__law_modes : PySem.W.nsIn K mainGlobals "_law_modes" = some (some (.ref f__law_modes)))
    (l__law_modes : K.lookup f__law_modes = some ⟨oc__law_modes, od__law_modes, .func (PySem.W.fnOf "_law_modes" "_law_modes" (defArgs S__law_modes) (defBody S__law_modes) (defScope S__law_modes) .none kV__law_modes dc__law_modes pm__law_modes an__law_modes cd__law_modes ct__law_modes), sl__law_modes⟩)
    (c__law_modes : PySem.W.codeIn K cd__law_modes "_law_modes" = true)
    (k__law_modes : PySem.W.keepIn K (.ref f__law_modes) = true)
    (a__law_mode : PySem.W.nsIn K mainGlobals "_law_mode" = some (some (.ref f__law_mode)))
    (l__law_mode : K.lookup f__law_mode = some ⟨oc__law_mode, od__law_mode, .func (PySem.W.fnOf "_law_mode" "_law_mode" (defArgs S__law_mode) (defBody S__law_mode) (defScope S__law_mode) .none kV__law_mode dc__law_mode pm__law_mode an__law_mode cd__law_mode ct__law_mode), sl__law_mode⟩)
    (c__law_mode : PySem.W.codeIn K cd__law_mode "_law_mode" = true)
    (k__law_mode : PySem.W.keepIn K (.ref f__law_mode) = true)
    (a__law_base : PySem.W.nsIn K mainGlobals "_law_base" = some (some (.ref f__law_base)))
    (l__law_base : K.lookup f__law_base = some ⟨oc__law_base, od__law_base, .func (PySem.W.fnOf "_law_base" "_law_base" (defArgs S__law_base) (defBody S__law_base) (defScope S__law_base) .none kV__law_base dc__law_base pm__law_base an__law_base cd__law_base ct__law_base), sl__law_base⟩)
    (c__law_base : PySem.W.codeIn K cd__law_base "_law_base" = true)
    (k__law_base : PySem.W.keepIn K (.ref f__law_base) = true)
    (a__law_equal : PySem.W.nsIn K mainGlobals "_law_equal" = some (some (.ref f__law_equal)))
    (l__law_equal : K.lookup f__law_equal = some ⟨oc__law_equal, od__law_equal, .func (PySem.W.fnOf "_law_equal" "_law_equal" (defArgs S__law_equal) (defBody S__law_equal) (defScope S__law_equal) .none kV__law_equal dc__law_equal pm__law_equal an__law_equal cd__law_equal ct__law_equal), sl__law_equal⟩)
    (c__law_equal : PySem.W.codeIn K cd__law_equal "_law_equal" = true)
    (k__law_equal : PySem.W.keepIn K (.ref f__law_equal) = true)
    (a__law_big : PySem.W.nsIn K mainGlobals "_law_big" = some (some (.ref f__law_big)))
    (l__law_big : K.lookup f__law_big = some ⟨oc__law_big, od__law_big, .func (PySem.W.fnOf "_law_big" "_law_big" (defArgs S__law_big) (defBody S__law_big) (defScope S__law_big) .none kV__law_big dc__law_big pm__law_big an__law_big cd__law_big ct__law_big), sl__law_big⟩)
    (c__law_big : PySem.W.codeIn K cd__law_big "_law_big" = true)
    (k__law_big : PySem.W.keepIn K (.ref f__law_big) = true)
    (a__law_odd_mode : PySem.W.nsIn K mainGlobals "_law_odd_mode" = some (some (.ref f__law_odd_mode)))
    (l__law_odd_mode : K.lookup f__law_odd_mode = some ⟨oc__law_odd_mode, od__law_odd_mode, .func (PySem.W.fnOf "_law_odd_mode" "_law_odd_mode" (defArgs S__law_odd_mode) (defBody S__law_odd_mode) (defScope S__law_odd_mode) .none kV__law_odd_mode dc__law_odd_mode pm__law_odd_mode an__law_odd_mode cd__law_odd_mode ct__law_odd_mode), sl__law_odd_mode⟩)
    (c__law_odd_mode : PySem.W.codeIn K cd__law_odd_mode "_law_odd_mode" = true)
    (k__law_odd_mode : PySem.W.keepIn K (.ref f__law_odd_mode) = true)
    (a__law_chosen : PySem.W.nsIn K mainGlobals "_law_chosen" = some (some (.ref f__law_chosen)))
    (l__law_chosen : K.lookup f__law_chosen = some ⟨oc__law_chosen, od__law_chosen, .func (PySem.W.fnOf "_law_chosen" "_law_chosen" (defArgs S__law_chosen) (defBody S__law_chosen) (defScope S__law_chosen) .none kV__law_chosen dc__law_chosen pm__law_chosen an__law_chosen cd__law_chosen ct__law_chosen), sl__law_chosen⟩)
    (c__law_chosen : PySem.W.codeIn K cd__law_chosen "_law_chosen" = true)
    (k__law_chosen : PySem.W.keepIn K (.ref f__law_chosen) = true)
    (a__law_bad_base : PySem.W.nsIn K mainGlobals "_law_bad_base" = some (some (.ref f__law_bad_base)))
    (l__law_bad_base : K.lookup f__law_bad_base = some ⟨oc__law_bad_base, od__law_bad_base, .func (PySem.W.fnOf "_law_bad_base" "_law_bad_base" (defArgs S__law_bad_base) (defBody S__law_bad_base) (defScope S__law_bad_base) .none kV__law_bad_base dc__law_bad_base pm__law_bad_base an__law_bad_base cd__law_bad_base ct__law_bad_base), sl__law_bad_base⟩)
    (c__law_bad_base : PySem.W.codeIn K cd__law_bad_base "_law_bad_base" = true)
    (k__law_bad_base : PySem.W.keepIn K (.ref f__law_bad_base) = true)
    (a__law_refusal : PySem.W.nsIn K mainGlobals "_law_refusal" = some (some (.ref f__law_refusal)))
    (l__law_refusal : K.lookup f__law_refusal = some ⟨oc__law_refusal, od__law_refusal, .func (PySem.W.fnOf "_law_refusal" "_law_refusal" (defArgs S__law_refusal) (defBody S__law_refusal) (defScope S__law_refusal) .none kV__law_refusal dc__law_refusal pm__law_refusal an__law_refusal cd__law_refusal ct__law_refusal), sl__law_refusal⟩)
    (c__law_refusal : PySem.W.codeIn K cd__law_refusal "_law_refusal" = true)
    (k__law_refusal : PySem.W.keepIn K (.ref f__law_refusal) = true)
    (a__law_reached : PySem.W.nsIn K mainGlobals "_law_reached" = some (some (.ref f__law_reached)))
    (l__law_reached : K.lookup f__law_reached = some ⟨oc__law_reached, od__law_reached, .func (PySem.W.fnOf "_law_reached" "_law_reached" (defArgs S__law_reached) (defBody S__law_reached) (defScope S__law_reached) .none kV__law_reached dc__law_reached pm__law_reached an__law_reached cd__law_reached ct__law_reached), sl__law_reached⟩)
    (c__law_reached : PySem.W.codeIn K cd__law_reached "_law_reached" = true)
    (k__law_reached : PySem.W.keepIn K (.ref f__law_reached) = true)
    (a_law : PySem.W.nsIn K mainGlobals "law" = some (some (.ref f_law)))
    (l_law : K.lookup f_law = some ⟨oc_law, od_law, .func (PySem.W.fnOf "law" "law" (defArgs S_law) (defBody S_law) (defScope S_law) .none kV_law dc_law pm_law an_law cd_law ct_law), sl_law⟩)
    (c_law : PySem.W.codeIn K cd_law "law" = true)
    (k_law : PySem.W.keepIn K (.ref f_law) = true)
    (a_LostError : PySem.W.nsIn K mainGlobals "LostError" = some (some (.ref f_LostError)))
    (a_MODES : PySem.W.nsIn K mainGlobals "MODES" = some (some (.ref f_MODES)))
    (a_NEAREST : PySem.W.nsIn K mainGlobals "NEAREST" = some (some (.ref f_NEAREST)))
    (l_MODES : K.lookup f_MODES = some ⟨.type "tuple", dd_MODES, .seq its_MODES n_MODES, sl_MODES⟩)
    (z_MODES : its_MODES.size ≤ sizeLine)
    (v_MODES : Vals (modes.map V.str) its_MODES.toList)
    (l_NEAREST : K.lookup f_NEAREST = some ⟨.type "tuple", dd_NEAREST, .seq its_NEAREST n_NEAREST, sl_NEAREST⟩)
    (z_NEAREST : its_NEAREST.size ≤ sizeLine)
    (v_NEAREST : Vals (nears.map V.str) its_NEAREST.toList)
    (z_len : PySem.W.nsIn K mainGlobals "len" = some none)
    (z_int : PySem.W.nsIn K mainGlobals "int" = some none)
    (z_abs : PySem.W.nsIn K mainGlobals "abs" = some none)
    (z_isi : PySem.W.nsIn K mainGlobals "isinstance" = some none)
    (z_range : PySem.W.nsIn K mainGlobals "range" = some none)
    (z_boo : PySem.W.nsIn K mainGlobals "bool" = some none)
    (z_str : PySem.W.nsIn K mainGlobals "str" = some none)
    (z_lst : PySem.W.nsIn K mainGlobals "list" = some none)
    (z_tup : PySem.W.nsIn K mainGlobals "tuple" = some none)
    (z_max : PySem.W.nsIn K mainGlobals "max" = some none)
    (z_min : PySem.W.nsIn K mainGlobals "min" = some none)
    (z_zip : PySem.W.nsIn K mainGlobals "zip" = some none)
    (z_srt : PySem.W.nsIn K mainGlobals "sorted" = some none)
    (z_rev : PySem.W.nsIn K mainGlobals "reversed" = some none)
    (z_dm : PySem.W.nsIn K mainGlobals "divmod" = some none)
    (z_enu : PySem.W.nsIn K mainGlobals "enumerate" = some none)
    (z_sum : PySem.W.nsIn K mainGlobals "sum" = some none)
    (z_ve : PySem.W.nsIn K mainGlobals "ValueError" = some none)
    (x_hn : PySem.W.specialIn K (.builtin "object.__class__") "__get__" = some (some (.builtin "getset_descriptor.__get__")))
    (x_ht : PySem.W.takesIn K (.builtin "object.__class__") = some true)
    (x_op : PySem.W.nsIn K cStatics "thirdparty.any" = some none)
    (x_su : PySem.W.nsIn K mainGlobals "super" = some none)
    (a_BadMode : PySem.W.nsIn K mainGlobals "BadMode" = some (some (.ref f_BadMode)))
    (x_BadMode : K.lookup f_BadMode = some (excClassObj nm_BadMode q_BadMode f_BadMode N_BadMode bs_BadMode bm_BadMode true sn_BadMode sub_BadMode ab_BadMode col_BadMode dd_BadMode m0_BadMode m1_BadMode m2_BadMode m3_BadMode m5_BadMode "ValueError.__new__"))
    (rv_BadMode : PySem.HandSPX.refsVE bm_BadMode = true)
    (sa_BadMode : PySem.W.findIn K (.ref f_BadMode) "__setattr__" = some (some (.builtin "object.__setattr__")))
    (ga_BadMode : PySem.W.findIn K (.ref f_BadMode) "__getattribute__" = some (some (.builtin "BaseException.__getattribute__")))
    (gg_BadMode : PySem.W.findIn K (.ref f_BadMode) "__getattr__" = some none)
    (ha_BadMode : PySem.W.findIn K (.ref f_BadMode) "__class__" = some (some (.builtin "object.__class__")))
    (hm_BadMode : PySem.W.mroIn K f_BadMode (.type "object") = some true)
    (ms_BadMode : PySem.W.mroIn K f_BadMode (.ref f_BadMode) = some true)
    (eC_BadMode : PySem.W.subIn K (.ref f_BadMode) (.type "BaseException") = some true)
    (sV_BadMode : PySem.W.subIn K (.ref f_BadMode) (.type "ValueError") = some true)
    (tC_BadMode : PySem.W.typeIn K (.ref f_BadMode) = some (.type "type"))
    (kC_BadMode : PySem.W.keepIn K (.ref f_BadMode) = true)
    (hd_BadMode : PySem.W.hasDictIn K f_BadMode = true)
    (ii_BadMode : PySem.W.findIn K (.ref f_BadMode) "__init__" = some (some (.ref i_BadMode)))
    (ti_BadMode : PySem.W.typeIn K (.ref i_BadMode) = some (.type "function"))
    (li_BadMode : K.lookup i_BadMode = some ⟨oc_BadMode, od_BadMode, .func (PySem.W.ksFn "__init__" "BadMode.__init__" (defArgs S_BadMode___init__) (defBody S_BadMode___init__) (defScope S_BadMode___init__) .none kV_BadMode dc_BadMode pm_BadMode an_BadMode (.ref cda_BadMode) ct_BadMode cc_BadMode), sl_BadMode⟩)
    (ci_BadMode : PySem.W.codeIn K (.ref cda_BadMode) "BadMode.__init__" = true)
    (lc_BadMode : K.lookup cda_BadMode = some ⟨ccl_BadMode, ccd_BadMode, .fields vs_BadMode, ccs_BadMode⟩)
    (v2_BadMode : vs_BadMode[2]? = some (.str fl_BadMode tf_BadMode))
    (fe_BadMode : ((PySem.Challenge.pw_lostpart_k10_whole_reach).main.file == fl_BadMode) = true)
    (lk_BadMode : K.lookup cc_BadMode = some ⟨cl_BadMode, cld_BadMode, .cell (some (.ref f_BadMode)), csl_BadMode⟩)
    (su_BadMode : PySem.W.ks_superIn K f_BadMode f_BadMode "__init__" = some (some (.builtin "ValueError.__init__")))
    (n_mode_BadMode : PySem.W.findIn K (.ref f_BadMode) "mode" = some none)
    (a_BadBase : PySem.W.nsIn K mainGlobals "BadBase" = some (some (.ref f_BadBase)))
    (x_BadBase : K.lookup f_BadBase = some (excClassObj nm_BadBase q_BadBase f_BadBase N_BadBase bs_BadBase bm_BadBase true sn_BadBase sub_BadBase ab_BadBase col_BadBase dd_BadBase m0_BadBase m1_BadBase m2_BadBase m3_BadBase m5_BadBase "ValueError.__new__"))
    (rv_BadBase : PySem.HandSPX.refsVE bm_BadBase = true)
    (sa_BadBase : PySem.W.findIn K (.ref f_BadBase) "__setattr__" = some (some (.builtin "object.__setattr__")))
    (ga_BadBase : PySem.W.findIn K (.ref f_BadBase) "__getattribute__" = some (some (.builtin "BaseException.__getattribute__")))
    (gg_BadBase : PySem.W.findIn K (.ref f_BadBase) "__getattr__" = some none)
    (ha_BadBase : PySem.W.findIn K (.ref f_BadBase) "__class__" = some (some (.builtin "object.__class__")))
    (hm_BadBase : PySem.W.mroIn K f_BadBase (.type "object") = some true)
    (ms_BadBase : PySem.W.mroIn K f_BadBase (.ref f_BadBase) = some true)
    (eC_BadBase : PySem.W.subIn K (.ref f_BadBase) (.type "BaseException") = some true)
    (sV_BadBase : PySem.W.subIn K (.ref f_BadBase) (.type "ValueError") = some true)
    (tC_BadBase : PySem.W.typeIn K (.ref f_BadBase) = some (.type "type"))
    (kC_BadBase : PySem.W.keepIn K (.ref f_BadBase) = true)
    (hd_BadBase : PySem.W.hasDictIn K f_BadBase = true)
    (ii_BadBase : PySem.W.findIn K (.ref f_BadBase) "__init__" = some (some (.ref i_BadBase)))
    (ti_BadBase : PySem.W.typeIn K (.ref i_BadBase) = some (.type "function"))
    (li_BadBase : K.lookup i_BadBase = some ⟨oc_BadBase, od_BadBase, .func (PySem.W.ksFn "__init__" "BadBase.__init__" (defArgs S_BadBase___init__) (defBody S_BadBase___init__) (defScope S_BadBase___init__) .none kV_BadBase dc_BadBase pm_BadBase an_BadBase (.ref cda_BadBase) ct_BadBase cc_BadBase), sl_BadBase⟩)
    (ci_BadBase : PySem.W.codeIn K (.ref cda_BadBase) "BadBase.__init__" = true)
    (lc_BadBase : K.lookup cda_BadBase = some ⟨ccl_BadBase, ccd_BadBase, .fields vs_BadBase, ccs_BadBase⟩)
    (v2_BadBase : vs_BadBase[2]? = some (.str fl_BadBase tf_BadBase))
    (fe_BadBase : ((PySem.Challenge.pw_lostpart_k10_whole_reach).main.file == fl_BadBase) = true)
    (lk_BadBase : K.lookup cc_BadBase = some ⟨cl_BadBase, cld_BadBase, .cell (some (.ref f_BadBase)), csl_BadBase⟩)
    (su_BadBase : PySem.W.ks_superIn K f_BadBase f_BadBase "__init__" = some (some (.builtin "ValueError.__init__")))
    (n_base_BadBase : PySem.W.findIn K (.ref f_BadBase) "base" = some none)
    (m_BadMode_LostError : PySem.W.exmOne K (.ref f_BadMode) (.ref f_LostError) = some true)
    (m_BadBase_LostError : PySem.W.exmOne K (.ref f_BadBase) (.ref f_LostError) = some true)
    (j_BadMode_BadMode : PySem.W.kitOne K (.ref f_BadMode) (.ref f_BadMode) = some true)
    (j_BadMode_BadBase : PySem.W.kitOne K (.ref f_BadMode) (.ref f_BadBase) = some false)
    (j_BadBase_BadMode : PySem.W.kitOne K (.ref f_BadBase) (.ref f_BadMode) = some false)
    (j_BadBase_BadBase : PySem.W.kitOne K (.ref f_BadBase) (.ref f_BadBase) = some true)
    (j_BadMode_ValueError : PySem.W.kitOne K (.ref f_BadMode) (.type "ValueError") = some true)
    (j_BadBase_ValueError : PySem.W.kitOne K (.ref f_BadBase) (.type "ValueError") = some true)
    : ∃ fd : FuncData, (∀ (s : Shared) (v : Value), BindsTo s fd ⟨[v], []⟩ [("script", v)]) ∧ ∀ base : Heap, K.In base → base.Ns mainGlobals mg → FnOk PySem.Challenge.pw_lostpart_k10_whole_reach w K mg base (L2N.CX PySem.Challenge.pw_lostpart_k10_whole_reach w) 6 fa fd ["script"] (spLaw K) := by
  have e := hfa.symm.trans (PySem.W.mg_of X G a_law)
  cases e
  have F_check_base := fun_mk (st := S_check_base) l_check_base c_check_base k_check_base
  have b_check_base := F_check_base.binds (ps := ["base"]) fun _ _ _ _ _ _ us hl => match us, hl with | [_], _ => rfl
  have g_check_base := PySem.W.mg_of X G a_check_base
  have F_check_mode := fun_mk (st := S_check_mode) l_check_mode c_check_mode k_check_mode
  have b_check_mode := F_check_mode.binds (ps := ["mode"]) fun _ _ _ _ _ _ us hl => match us, hl with | [_], _ => rfl
  have g_check_mode := PySem.W.mg_of X G a_check_mode
  have F_goes_up := fun_mk (st := S_goes_up) l_goes_up c_goes_up k_goes_up
  have b_goes_up := F_goes_up.binds (ps := ["mode", "positive"]) fun _ _ _ _ _ _ us hl => match us, hl with | [_, _], _ => rfl
  have g_goes_up := PySem.W.mg_of X G a_goes_up
  have F_direction := fun_mk (st := S_direction) l_direction c_direction k_direction
  have b_direction := F_direction.binds (ps := ["mode", "sign"]) fun _ _ _ _ _ _ us hl => match us, hl with | [_, _], _ => rfl
  have g_direction := PySem.W.mg_of X G a_direction
  have F_tie_goes_out := fun_mk (st := S_tie_goes_out) l_tie_goes_out c_tie_goes_out k_tie_goes_out
  have b_tie_goes_out := F_tie_goes_out.binds (ps := ["mode", "sign"]) fun _ _ _ _ _ _ us hl => match us, hl with | [_, _], _ => rfl
  have g_tie_goes_out := PySem.W.mg_of X G a_tie_goes_out
  have F_reach := fun_mk (st := S_reach) l_reach c_reach k_reach
  have b_reach := F_reach.binds (ps := ["mode", "base", "sign"]) fun _ _ _ _ _ _ us hl => match us, hl with | [_, _, _], _ => rfl
  have g_reach := PySem.W.mg_of X G a_reach
  have F_tie_goes_up := fun_mk (st := S_tie_goes_up) l_tie_goes_up c_tie_goes_up k_tie_goes_up
  have b_tie_goes_up := F_tie_goes_up.binds (ps := ["mode", "low", "positive"]) fun _ _ _ _ _ _ us hl => match us, hl with | [_, _, _], _ => rfl
  have g_tie_goes_up := PySem.W.mg_of X G a_tie_goes_up
  have F_round_quotient := fun_mk (st := S_round_quotient) l_round_quotient c_round_quotient k_round_quotient
  have b_round_quotient := F_round_quotient.binds (ps := ["numerator", "divisor", "mode"]) fun _ _ _ _ _ _ us hl => match us, hl with | [_, _, _], _ => rfl
  have g_round_quotient := PySem.W.mg_of X G a_round_quotient
  have F__law_source := fun_mk (st := S__law_source) l__law_source c__law_source k__law_source
  have b__law_source := F__law_source.binds (ps := ["script"]) fun _ _ _ _ _ _ us hl => match us, hl with | [_], _ => rfl
  have g__law_source := PySem.W.mg_of X G a__law_source
  have F__law_draw := fun_mk (st := S__law_draw) l__law_draw c__law_draw k__law_draw
  have b__law_draw := F__law_draw.binds (ps := ["source", "many"]) fun _ _ _ _ _ _ us hl => match us, hl with | [_, _], _ => rfl
  have g__law_draw := PySem.W.mg_of X G a__law_draw
  have F__law_modes := fun_mk (st := S__law_modes) l__law_modes c__law_modes k__law_modes
  have b__law_modes := F__law_modes.binds (ps := []) fun _ _ _ _ _ _ us hl => match us, hl with | [], _ => rfl
  have g__law_modes := PySem.W.mg_of X G a__law_modes
  have F__law_mode := fun_mk (st := S__law_mode) l__law_mode c__law_mode k__law_mode
  have b__law_mode := F__law_mode.binds (ps := ["source"]) fun _ _ _ _ _ _ us hl => match us, hl with | [_], _ => rfl
  have g__law_mode := PySem.W.mg_of X G a__law_mode
  have F__law_base := fun_mk (st := S__law_base) l__law_base c__law_base k__law_base
  have b__law_base := F__law_base.binds (ps := ["source"]) fun _ _ _ _ _ _ us hl => match us, hl with | [_], _ => rfl
  have g__law_base := PySem.W.mg_of X G a__law_base
  have F__law_equal := fun_mk (st := S__law_equal) l__law_equal c__law_equal k__law_equal
  have b__law_equal := F__law_equal.binds (ps := ["actual", "expected"]) fun _ _ _ _ _ _ us hl => match us, hl with | [_, _], _ => rfl
  have g__law_equal := PySem.W.mg_of X G a__law_equal
  have F__law_big := fun_mk (st := S__law_big) l__law_big c__law_big k__law_big
  have b__law_big := F__law_big.binds (ps := ["source"]) fun _ _ _ _ _ _ us hl => match us, hl with | [_], _ => rfl
  have g__law_big := PySem.W.mg_of X G a__law_big
  have F__law_odd_mode := fun_mk (st := S__law_odd_mode) l__law_odd_mode c__law_odd_mode k__law_odd_mode
  have b__law_odd_mode := F__law_odd_mode.binds (ps := ["source"]) fun _ _ _ _ _ _ us hl => match us, hl with | [_], _ => rfl
  have g__law_odd_mode := PySem.W.mg_of X G a__law_odd_mode
  have F__law_chosen := fun_mk (st := S__law_chosen) l__law_chosen c__law_chosen k__law_chosen
  have b__law_chosen := F__law_chosen.binds (ps := ["numerator", "divisor", "mode", "result"]) fun _ _ _ _ _ _ us hl => match us, hl with | [_, _, _, _], _ => rfl
  have g__law_chosen := PySem.W.mg_of X G a__law_chosen
  have F__law_bad_base := fun_mk (st := S__law_bad_base) l__law_bad_base c__law_bad_base k__law_bad_base
  have b__law_bad_base := F__law_bad_base.binds (ps := ["source"]) fun _ _ _ _ _ _ us hl => match us, hl with | [_], _ => rfl
  have g__law_bad_base := PySem.W.mg_of X G a__law_bad_base
  have F__law_refusal := fun_mk (st := S__law_refusal) l__law_refusal c__law_refusal k__law_refusal
  have b__law_refusal := F__law_refusal.binds (ps := ["mode", "base", "sign"]) fun _ _ _ _ _ _ us hl => match us, hl with | [_, _, _], _ => rfl
  have g__law_refusal := PySem.W.mg_of X G a__law_refusal
  have F__law_reached := fun_mk (st := S__law_reached) l__law_reached c__law_reached k__law_reached
  have b__law_reached := F__law_reached.binds (ps := ["mode", "base", "sign", "whole"]) fun _ _ _ _ _ _ us hl => match us, hl with | [_, _, _, _], _ => rfl
  have g__law_reached := PySem.W.mg_of X G a__law_reached
  have F_law := fun_mk (st := S_law) l_law c_law k_law
  have b_law := F_law.binds (ps := ["script"]) fun _ _ _ _ _ _ us hl => match us, hl with | [_], _ => rfl
  have g_law := PySem.W.mg_of X G a_law
  have g_LostError := PySem.W.mg_of X G a_LostError
  have g_MODES := PySem.W.mg_of X G a_MODES
  have g_NEAREST := PySem.W.mg_of X G a_NEAREST
  have T_MODES : ∀ H, SqT K H f_MODES (modes.map V.str) := fun H => .inr ⟨_, _, _, l_MODES, rfl, rfl, z_MODES, v_MODES⟩
  have T_NEAREST : ∀ H, SqT K H f_NEAREST (nears.map V.str) := fun H => .inr ⟨_, _, _, l_NEAREST, rfl, rfl, z_NEAREST, v_NEAREST⟩
  have B : Blt mg := ⟨PySem.W.mg_none_of X G z_len, PySem.W.mg_none_of X G z_int, PySem.W.mg_none_of X G z_abs, PySem.W.mg_none_of X G z_isi, PySem.W.mg_none_of X G z_range, PySem.W.mg_none_of X G z_boo, PySem.W.mg_none_of X G z_str, PySem.W.mg_none_of X G z_lst, PySem.W.mg_none_of X G z_tup, PySem.W.mg_none_of X G z_max, PySem.W.mg_none_of X G z_min, PySem.W.mg_none_of X G z_zip, PySem.W.mg_none_of X G z_srt, PySem.W.mg_none_of X G z_rev, PySem.W.mg_none_of X G z_dm, PySem.W.mg_none_of X G z_enu, PySem.W.mg_none_of X G z_sum, PySem.W.mg_none_of X G z_ve⟩
  have T_BadMode : PySem.LX.ExcT K f_BadMode := ⟨⟨⟨_, _, _, _, _, _, _, _, _, _, _, _, _, _, _, x_BadMode, rv_BadMode⟩, sa_BadMode, eC_BadMode, tC_BadMode, kC_BadMode⟩, ga_BadMode, gg_BadMode, hd_BadMode, ha_BadMode, x_hn, x_ht, hm_BadMode⟩
  have I_BadMode : PySem.LX.InitT PySem.Challenge.pw_lostpart_k10_whole_reach K mg f_BadMode i_BadMode "BadMode.__init__" (defArgs S_BadMode___init__) (defBody S_BadMode___init__) (defScope S_BadMode___init__) := ⟨ii_BadMode, ti_BadMode, ⟨_, _, _, _, _, _, _, _, _, _, li_BadMode, ci_BadMode, ⟨_, _, _, _, _, _, lc_BadMode, v2_BadMode, fe_BadMode⟩, ⟨_, _, _, lk_BadMode⟩⟩, su_BadMode, ms_BadMode, sV_BadMode, x_op, PySem.W.mg_none_of X G x_su, by decide +kernel⟩
  have R_BadMode : PySem.LX.InitRuns PySem.Challenge.pw_lostpart_k10_whole_reach K mg f_BadMode i_BadMode ["mode"] := PySem.LX.init1 T_BadMode I_BadMode (fun _ => rfl) ⟨rfl, rfl, rfl, rfl, rfl, by decide +kernel, by decide +kernel⟩ (fun _ _ _ _ _ _ _ us hl => match us, hl with | [_, _], _ => rfl) rfl rfl (by decide) (by decide) n_mode_BadMode (fun _ => rfl)
  have E_BadMode : XCls PySem.Challenge.pw_lostpart_k10_whole_reach K mg "BadMode" f_BadMode ["mode"] := ⟨T_BadMode, PySem.W.mg_of X G a_BadMode, _, ii_BadMode, ti_BadMode, R_BadMode⟩
  have T_BadBase : PySem.LX.ExcT K f_BadBase := ⟨⟨⟨_, _, _, _, _, _, _, _, _, _, _, _, _, _, _, x_BadBase, rv_BadBase⟩, sa_BadBase, eC_BadBase, tC_BadBase, kC_BadBase⟩, ga_BadBase, gg_BadBase, hd_BadBase, ha_BadBase, x_hn, x_ht, hm_BadBase⟩
  have I_BadBase : PySem.LX.InitT PySem.Challenge.pw_lostpart_k10_whole_reach K mg f_BadBase i_BadBase "BadBase.__init__" (defArgs S_BadBase___init__) (defBody S_BadBase___init__) (defScope S_BadBase___init__) := ⟨ii_BadBase, ti_BadBase, ⟨_, _, _, _, _, _, _, _, _, _, li_BadBase, ci_BadBase, ⟨_, _, _, _, _, _, lc_BadBase, v2_BadBase, fe_BadBase⟩, ⟨_, _, _, lk_BadBase⟩⟩, su_BadBase, ms_BadBase, sV_BadBase, x_op, PySem.W.mg_none_of X G x_su, by decide +kernel⟩
  have R_BadBase : PySem.LX.InitRuns PySem.Challenge.pw_lostpart_k10_whole_reach K mg f_BadBase i_BadBase ["base"] := PySem.LX.init1 T_BadBase I_BadBase (fun _ => rfl) ⟨rfl, rfl, rfl, rfl, rfl, by decide +kernel, by decide +kernel⟩ (fun _ _ _ _ _ _ _ us hl => match us, hl with | [_, _], _ => rfl) rfl rfl (by decide) (by decide) n_base_BadBase (fun _ => rfl)
  have E_BadBase : XCls PySem.Challenge.pw_lostpart_k10_whole_reach K mg "BadBase" f_BadBase ["base"] := ⟨T_BadBase, PySem.W.mg_of X G a_BadBase, _, ii_BadBase, ti_BadBase, R_BadBase⟩
  refine ⟨PySem.W.fnOf "law" "law" (defArgs S_law) (defBody S_law) (defScope S_law) .none kV_law dc_law pm_law an_law cd_law ct_law, fun s v => .of_eq rfl, fun base _ _ => ?_⟩
  have C_src := Cal.of (ok_source (P := PySem.Challenge.pw_lostpart_k10_whole_reach) (w := w) (base := base) F__law_source B) g__law_source k__law_source b__law_source
  have C_draw := Cal.of (ok_draw (P := PySem.Challenge.pw_lostpart_k10_whole_reach) (w := w) (base := base) F__law_draw B) g__law_draw k__law_draw b__law_draw
  have C_modes := Cal.of (ok_modes (P := PySem.Challenge.pw_lostpart_k10_whole_reach) (w := w) (base := base) F__law_modes) g__law_modes k__law_modes b__law_modes
  have C_mode := Cal.of (ok_mode F__law_mode C_draw C_modes) g__law_mode k__law_mode b__law_mode
  have C_chk := Cal.of (ok_check (w := w) (base := base) F_check_mode g_MODES T_MODES E_BadMode) g_check_mode k_check_mode b_check_mode
  have C_up := Cal.of (ok_up (P := PySem.Challenge.pw_lostpart_k10_whole_reach) (w := w) (base := base) F_goes_up) g_goes_up k_goes_up b_goes_up
  have C_dir := Cal.of (ok_dir F_direction g_NEAREST T_NEAREST C_chk C_up) g_direction k_direction b_direction
  have C_cb := Cal.of (ok_cb (w := w) (base := base) F_check_base E_BadBase) g_check_base k_check_base b_check_base
  have C_tgo := Cal.of (ok_tgo (P := PySem.Challenge.pw_lostpart_k10_whole_reach) (w := w) (base := base) F_tie_goes_out) g_tie_goes_out k_tie_goes_out b_tie_goes_out
  have C_reach := Cal.of (ok_reach F_reach C_dir C_cb C_tgo) g_reach k_reach b_reach
  have C_tu := Cal.of (ok_tieUp (P := PySem.Challenge.pw_lostpart_k10_whole_reach) (w := w) (base := base) F_tie_goes_up B) g_tie_goes_up k_tie_goes_up b_tie_goes_up
  have C_rq := Cal.of (ok_round F_round_quotient B g_NEAREST T_NEAREST C_chk C_up C_tu) g_round_quotient k_round_quotient b_round_quotient
  have C_ch := Cal.of (ok_chosen (P := PySem.Challenge.pw_lostpart_k10_whole_reach) (w := w) (base := base) F__law_chosen B) g__law_chosen k__law_chosen b__law_chosen
  have C_base := Cal.of (ok_base F__law_base C_draw) g__law_base k__law_base b__law_base
  have C_big := Cal.of (ok_big F__law_big B C_draw) g__law_big k__law_big b__law_big
  have C_bb := Cal.of (ok_bb F__law_bad_base B C_draw) g__law_bad_base k__law_bad_base b__law_bad_base
  have C_odd := Cal.of (ok_odd F__law_odd_mode C_draw C_mode B) g__law_odd_mode k__law_odd_mode b__law_odd_mode
  have C_eq := Cal.of (ok_equal (P := PySem.Challenge.pw_lostpart_k10_whole_reach) (w := w) (base := base) F__law_equal B g__law_equal k__law_equal b__law_equal 1) g__law_equal k__law_equal b__law_equal
  have T : Errs PySem.Challenge.pw_lostpart_k10_whole_reach K mg f_BadMode f_LostError f_BadBase := ⟨E_BadMode, E_BadBase, g_LostError, m_BadMode_LostError, m_BadBase_LostError, j_BadMode_BadMode, j_BadMode_BadBase, j_BadBase_BadMode, j_BadBase_BadBase, j_BadMode_ValueError, j_BadBase_ValueError, n_mode_BadMode, n_base_BadBase⟩
  have C_refu := Cal.of (ok_refu F__law_refusal B T C_reach) g__law_refusal k__law_refusal b__law_refusal
  have C_rd := Cal.of (ok_reached F__law_reached B C_reach C_rq C_ch) g__law_reached k__law_reached b__law_reached
  exact ok_law F_law B C_src C_draw C_base C_big C_odd C_bb C_modes C_rd C_refu C_eq
end Law
open PySem PySem.W PyProof.Rows
set_option maxRecDepth 100000 in
set_option maxHeartbeats 0 in
theorem PySem.Challenge.cw_lostpart_k10_whole_reach_holds : PySem.Challenge.rw_lostpart_k10_whole_reach.Holds := by
  w_on; o_law; k_head; (case hw => w_witness2)
  k_fill
  refine L2.walk_of (l := PySem.Challenge.rw_lostpart_k10_whole_reach) (n := 63) (k := 6) (x := "script") (CX := fun w => L2N.CX PySem.Challenge.pw_lostpart_k10_whole_reach w) (sp := fun w => L2.spLaw _) rfl (by decide) rfl ⟨rfl, by decide, by decide⟩ (fun w h Y => PySem.W.kIn_of Y) ?F (fun _ _ a ns hl _ hS => ⟨a, ns, rfl, hS, hl, fun _ => rfl⟩) (fun _ _ _ _ _ z => L2.cxn_no (fun _ _ _ z => z) z)
  case F =>
    intro w mg fa h KX G hmg
    refine' Law.all_mk KX G hmg ?a_check_base ?l_check_base ?c_check_base ?k_check_base ?a_check_mode ?l_check_mode ?c_check_mode ?k_check_mode ?a_goes_up ?l_goes_up ?c_goes_up ?k_goes_up ?a_direction ?l_direction ?c_direction ?k_direction ?a_tie_goes_out ?l_tie_goes_out ?c_tie_goes_out ?k_tie_goes_out ?a_reach ?l_reach ?c_reach ?k_reach ?a_tie_goes_up ?l_tie_goes_up ?c_tie_goes_up ?k_tie_goes_up ?a_round_quotient ?l_round_quotient ?c_round_quotient ?k_round_quotient ?a__law_source ?l__law_source ?c__law_source ?k__law_source ?a__law_draw ?l__law_draw ?c__law_draw ?k__law_draw ?a__law_modes ?l__law_modes ?c__law_modes ?k__law_modes ?a__law_mode ?l__law_mode ?c__law_mode ?k__law_mode ?a__law_base ?l__law_base ?c__law_base ?k__law_base ?a__law_equal ?l__law_equal ?c__law_equal ?k__law_equal ?a__law_big ?l__law_big ?c__law_big ?k__law_big ?a__law_odd_mode ?l__law_odd_mode ?c__law_odd_mode ?k__law_odd_mode ?a__law_chosen ?l__law_chosen ?c__law_chosen ?k__law_chosen ?a__law_bad_base ?l__law_bad_base ?c__law_bad_base ?k__law_bad_base ?a__law_refusal ?l__law_refusal ?c__law_refusal ?k__law_refusal ?a__law_reached ?l__law_reached ?c__law_reached ?k__law_reached ?a_law ?l_law ?c_law ?k_law ?a_LostError ?a_MODES ?a_NEAREST ?l_MODES ?z_MODES ?v_MODES ?l_NEAREST ?z_NEAREST ?v_NEAREST ?z_len ?z_int ?z_abs ?z_isi ?z_range ?z_boo ?z_str ?z_lst ?z_tup ?z_max ?z_min ?z_zip ?z_srt ?z_rev ?z_dm ?z_enu ?z_sum ?z_ve ?x_hn ?x_ht ?x_op ?x_su ?a_BadMode ?x_BadMode ?rv_BadMode ?sa_BadMode ?ga_BadMode ?gg_BadMode ?ha_BadMode ?hm_BadMode ?ms_BadMode ?eC_BadMode ?sV_BadMode ?tC_BadMode ?kC_BadMode ?hd_BadMode ?ii_BadMode ?ti_BadMode ?li_BadMode ?ci_BadMode ?lc_BadMode ?v2_BadMode ?fe_BadMode ?lk_BadMode ?su_BadMode ?n_mode_BadMode ?a_BadBase ?x_BadBase ?rv_BadBase ?sa_BadBase ?ga_BadBase ?gg_BadBase ?ha_BadBase ?hm_BadBase ?ms_BadBase ?eC_BadBase ?sV_BadBase ?tC_BadBase ?kC_BadBase ?hd_BadBase ?ii_BadBase ?ti_BadBase ?li_BadBase ?ci_BadBase ?lc_BadBase ?v2_BadBase ?fe_BadBase ?lk_BadBase ?su_BadBase ?n_base_BadBase ?m_BadMode_LostError ?m_BadBase_LostError ?j_BadMode_BadMode ?j_BadMode_BadBase ?j_BadBase_BadMode ?j_BadBase_BadBase ?j_BadMode_ValueError ?j_BadBase_ValueError
    (case a_check_base => k_is)
    (case l_check_base => k_is)
    (case c_check_base => k_is)
    (case k_check_base => k_is)
    (case a_check_mode => k_is)
    (case l_check_mode => k_is)
    (case c_check_mode => k_is)
    (case k_check_mode => k_is)
    (case a_goes_up => k_is)
    (case l_goes_up => k_is)
    (case c_goes_up => k_is)
    (case k_goes_up => k_is)
    (case a_direction => k_is)
    (case l_direction => k_is)
    (case c_direction => k_is)
    (case k_direction => k_is)
    (case a_tie_goes_out => k_is)
    (case l_tie_goes_out => k_is)
    (case c_tie_goes_out => k_is)
    (case k_tie_goes_out => k_is)
    (case a_reach => k_is)
    (case l_reach => k_is)
    (case c_reach => k_is)
    (case k_reach => k_is)
    (case a_tie_goes_up => k_is)
    (case l_tie_goes_up => k_is)
    (case c_tie_goes_up => k_is)
    (case k_tie_goes_up => k_is)
    (case a_round_quotient => k_is)
    (case l_round_quotient => k_is)
    (case c_round_quotient => k_is)
    (case k_round_quotient => k_is)
    (case a__law_source => k_is)
    (case l__law_source => k_is)
    (case c__law_source => k_is)
    (case k__law_source => k_is)
    (case a__law_draw => k_is)
    (case l__law_draw => k_is)
    (case c__law_draw => k_is)
    (case k__law_draw => k_is)
    (case a__law_modes => k_is)
    (case l__law_modes => k_is)
    (case c__law_modes => k_is)
    (case k__law_modes => k_is)
    (case a__law_mode => k_is)
    (case l__law_mode => k_is)
    (case c__law_mode => k_is)
    (case k__law_mode => k_is)
    (case a__law_base => k_is)
    (case l__law_base => k_is)
    (case c__law_base => k_is)
    (case k__law_base => k_is)
    (case a__law_equal => k_is)
    (case l__law_equal => k_is)
    (case c__law_equal => k_is)
    (case k__law_equal => k_is)
    (case a__law_big => k_is)
    (case l__law_big => k_is)
    (case c__law_big => k_is)
    (case k__law_big => k_is)
    (case a__law_odd_mode => k_is)
    (case l__law_odd_mode => k_is)
    (case c__law_odd_mode => k_is)
    (case k__law_odd_mode => k_is)
    (case a__law_chosen => k_is)
    (case l__law_chosen => k_is)
    (case c__law_chosen => k_is)
    (case k__law_chosen => k_is)
    (case a__law_bad_base => k_is)
    (case l__law_bad_base => k_is)
    (case c__law_bad_base => k_is)
    (case k__law_bad_base => k_is)
    (case a__law_refusal => k_is)
    (case l__law_refusal => k_is)
    (case c__law_refusal => k_is)
    (case k__law_refusal => k_is)
    (case a__law_reached => k_is)
    (case l__law_reached => k_is)
    (case c__law_reached => k_is)
    (case k__law_reached => k_is)
    (case a_law => k_is)
    (case l_law => k_is)
    (case c_law => k_is)
    (case k_law => k_is)
    (case a_LostError => k_is)
    (case a_MODES => k_is)
    (case a_NEAREST => k_is)
    (case l_MODES => k_is)
    (case z_MODES => exact Nat.le_of_ble_eq_true rfl)
    (case v_MODES => repeat (first | exact .nil | refine .cons ⟨_, rfl⟩ ?_))
    (case l_NEAREST => k_is)
    (case z_NEAREST => exact Nat.le_of_ble_eq_true rfl)
    (case v_NEAREST => repeat (first | exact .nil | refine .cons ⟨_, rfl⟩ ?_))
    (case z_len => k_is)
    (case z_int => k_is)
    (case z_abs => k_is)
    (case z_isi => k_is)
    (case z_range => k_is)
    (case z_boo => k_is)
    (case z_str => k_is)
    (case z_lst => k_is)
    (case z_tup => k_is)
    (case z_max => k_is)
    (case z_min => k_is)
    (case z_zip => k_is)
    (case z_srt => k_is)
    (case z_rev => k_is)
    (case z_dm => k_is)
    (case z_enu => k_is)
    (case z_sum => k_is)
    (case z_ve => k_is)
    (case x_hn => k_is)
    (case x_ht => k_is)
    (case x_op => k_is)
    (case x_su => k_is)
    (case a_BadMode => k_is)
    (case x_BadMode => k_is)
    (case rv_BadMode => decide +kernel)
    (case sa_BadMode => k_is)
    (case ga_BadMode => k_is)
    (case gg_BadMode => k_is)
    (case ha_BadMode => k_is)
    (case hm_BadMode => k_is)
    (case ms_BadMode => k_is)
    (case eC_BadMode => k_is)
    (case sV_BadMode => k_is)
    (case tC_BadMode => k_is)
    (case kC_BadMode => k_is)
    (case hd_BadMode => k_is)
    (case ii_BadMode => k_is)
    (case ti_BadMode => k_is)
    (case li_BadMode => k_is)
    (case ci_BadMode => k_is)
    (case lc_BadMode => k_is)
    (case v2_BadMode => rfl)
    (case fe_BadMode => decide +kernel)
    (case lk_BadMode => k_is)
    (case su_BadMode => ks_is)
    (case n_mode_BadMode => k_is)
    (case a_BadBase => k_is)
    (case x_BadBase => k_is)
    (case rv_BadBase => decide +kernel)
    (case sa_BadBase => k_is)
    (case ga_BadBase => k_is)
    (case gg_BadBase => k_is)
    (case ha_BadBase => k_is)
    (case hm_BadBase => k_is)
    (case ms_BadBase => k_is)
    (case eC_BadBase => k_is)
    (case sV_BadBase => k_is)
    (case tC_BadBase => k_is)
    (case kC_BadBase => k_is)
    (case hd_BadBase => k_is)
    (case ii_BadBase => k_is)
    (case ti_BadBase => k_is)
    (case li_BadBase => k_is)
    (case ci_BadBase => k_is)
    (case lc_BadBase => k_is)
    (case v2_BadBase => rfl)
    (case fe_BadBase => decide +kernel)
    (case lk_BadBase => k_is)
    (case su_BadBase => ks_is)
    (case n_base_BadBase => k_is)
    (case m_BadMode_LostError => kts_exm)
    (case m_BadBase_LostError => kts_exm)
    (case j_BadMode_BadMode => kit_is)
    (case j_BadMode_BadBase => kit_is)
    (case j_BadBase_BadMode => kit_is)
    (case j_BadBase_BadBase => kit_is)
    (case j_BadMode_ValueError => kit_is)
    (case j_BadBase_ValueError => kit_is)
