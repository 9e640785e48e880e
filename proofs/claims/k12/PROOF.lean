import PyProof.Rows.All
import Wide.All
import OpenK.AllK
import Wide.FinOn
import KE.KExcSuper
import KE.KExcIs
import HandS.ForMost
import HandS.ForExc
import HandS.ExcInit
import HandS.ExcCtx
import HandS.ExcIs
import HandS.ExcField
import HandS.HotCalls
import HandS.IsInst
import HandS.Property
import HandS.Flow
import HandS.Defaults
import HandS.Wide
import HandS.Comp
import HandS.Text
import HandS.StrMore
import HandS.ReplaceLit
import HandS.Words
import KE.RegKSuper
import KE.RegKIsAll
import KE.RegKTryMore
import HandS.RevRange
import HandS.Conv
import HandS.SlotsOwn
import HandS.ClsMeth
import HandS.MakeKwOnly
import HandS.NoneIn
import KE.KOpsOwn
import HandS.Deep
import PySem.Challenge.RW_lostpart_k12_grids_refused
set_option Elab.async false
set_option linter.all false
set_option maxRecDepth 100000
set_option maxHeartbeats 4000000
/-! Own exceptions whose __init__ says super().__init__(text) and stores one or two fields; the class stands under one more own class over ValueError. -/
namespace PySem
namespace LX
open PySem.W PySem.Calls PyProof.Rows PySem.HandSPX
/-- the text of such an __init__ -/
def supS (m : Str) (j : Nat) (a1 a2 a3 a4 a5 a6 : Pos) : Stmt :=
  .Expr (.Call (.Attribute (.Call (.Name "super" a1) [] [] a2) "__init__" a3) [.Constant (.str m) j a4] [] a5) a6
def fldS (f : Str) (q1 q2 q3 q4 : Pos) : Stmt := .Assign [.Attribute (.Name "self" q1) f q2] (.Name f q3) q4
/-- how that call is evaluated (by rfl, where the places are written) -/
def SupEq (m : Str) (j : Nat) (a1 a2 a3 a4 a5 : Pos) : Prop := ∀ env : Env, eval (.Call (.Attribute (.Call (.Name "super" a1) [] [] a2) "__init__" a3) [.Constant (.str m) j a4] [] a5) env = (do
      let ov ← attributeBase (.Call (.Name "super" a1) [] [] a2) "__init__" env (eval (.Call (.Name "super" a1) [] [] a2) env)
      standAt a3.atName
      let (f, first) ← holding [ov] (getMethod ov "__init__" (do return (← importBound (.Call (.Name "super" a1) [] [] a2) env).getD true))
      callWith a5 f first (backTo a5 (starEach [.Constant (.str m) j a4] env)) [])
/-- what the written part says of such a class at C -/
structure ExcT (K : Frag) (C : Addr) : Prop where
  ox : L2.OexC K C
  ga : findIn K (.ref C) "__getattribute__" = some (some (.builtin "BaseException.__getattribute__"))
  gg : findIn K (.ref C) "__getattr__" = some none
  hd : hasDictIn K C = true
  ha : findIn K (.ref C) "__class__" = some (some (.builtin "object.__class__"))
  hn : specialIn K (.builtin "object.__class__") "__get__" = some (some (.builtin "getset_descriptor.__get__"))
  ht : takesIn K (.builtin "object.__class__") = some true
  hm : mroIn K C (.type "object") = some true
/-- what it says of its __init__ at fI, the class's cell at cc, the code at cda; the def's st -/
structure InitT (P : Program) (K : Frag) (mg : Str → Option Value) (C fI : Addr) (qual : Str) (pa : Arguments) (bd : List Stmt) (sc : Scope) : Prop where
  iC : findIn K (.ref C) "__init__" = some (some (.ref fI))
  tC : typeIn K (.ref fI) = some (.type "function")
  fn : ∃ (oc : Value) (od : Option Addr) (kV doc pm : Value) (an : Option Addr) (ct : Value) (osl : Array (Option Value)) (cda cc : Addr),
    K.lookup fI = some ⟨oc, od, .func (ksFn "__init__" qual pa bd sc .none kV doc pm an (.ref cda) ct cc), osl⟩ ∧ codeIn K (.ref cda) qual = true ∧
    (∃ (ccl : Value) (cdd : Option Addr) (vs : Array Value) (ccs : Array (Option Value)) (file : Str) (tf : Tok), K.lookup cda = some ⟨ccl, cdd, .fields vs, ccs⟩ ∧ vs[2]? = some (.str file tf) ∧ ((P.main.file : Str) == file) = true) ∧
    ∃ (cl : Value) (cld : Option Addr) (csl : Array (Option Value)), K.lookup cc = some ⟨cl, cld, .cell (some (.ref C)), csl⟩
  sup : ks_superIn K C C "__init__" = some (some (.builtin "ValueError.__init__"))
  mro : mroIn K C (.ref C) = some true
  subV : subIn K (.ref C) (.type "ValueError") = some true
  opq : nsIn K cStatics "thirdparty.any" = some none
  gs : mg "super" = none
  top : (P.main.scope.names.lookup ("super" : Str)).isSome = false

section
variable {prog : Program} {w : World} {A : Around} {E : Value → Shared → Prop} {s : Shared} {K : Frag} {mg : Str → Option Value} {C fI : Addr} {qual : Str} {pa : Arguments} {bd : List Stmt} {sc : Scope}
/-- super().__init__(m): the exception's record is laid anew, the rest stands -/
theorem sup_stmt {body : List Stmt} {m : Str} {j : Nat} {a1 a2 a3 a4 a5 a6 : Pos} {cda cc : Addr} {L : Addr} {q : Str} {scope : Scope} {mL mb : Str → Option Value} {fd : FuncData} {oc : Value} {od : Option Addr} {osl : Array (Option Value)} {ar : Arg} {vs : Array Value} {file : Str} {tf : Tok} {ccl cl : Value} {cdd cld : Option Addr} {ccs csl : Array (Option Value)} {x t0 : Addr}
    {Q : Flow → Shared → Prop} (T : L2.OexC K C) (X : K.In s.heap) (hns : s.heap.Ns L mL) (hg : s.heap.Ns mainGlobals mg) (hb : s.heap.Ns builtinsNs mb) (hbb : mb "super" = some (.type "super"))
    (hf : K.lookup fI = some ⟨oc, od, .func fd, osl⟩) (hp : (fd.params.posonlyargs ++ fd.params.args).head? = some ar) (hv : mL ar.arg = some (.ref x)) (hx : s.heap.get? x = some (excO C t0))
    (hcode : K.lookup cda = some ⟨ccl, cdd, .fields vs, ccs⟩) (hvs : vs[2]? = some (.str file tf)) (hfile : ((prog.main.file : Str) == file) = true)
    (hcell : K.lookup cc = some ⟨cl, cld, .cell (some (.ref C)), csl⟩) (hmro : mroIn K C (.ref C) = some true) (hsup : ks_superIn K C C "__init__" = some (some (.builtin "ValueError.__init__"))) (hsubV : subIn K (.ref C) (.type "ValueError") = some true) (hop : nsIn K cStatics "thirdparty.any" = some none)
    (gs : mg "super" = none) (htop : (prog.main.scope.names.lookup ("super" : Str)).isSome = false)
    (hks : scope.names.lookup ("super" : Str) = some .globalImplicit) (hkc : scope.names.lookup ("__class__" : Str) = some .free) (hka : scope.names.lookup ar.arg = some .local) (hk : scope.kind = .function) (hxL : x ≠ L)
    (se : SupEq m j a1 a2 a3 a4 a5)
    (h : ∀ h' tk t1, (∀ b o, b ≠ x → s.heap.get? b = some o → h'.get? b = some o) → h'.get? x = some (excO C t1) → Q .next { s with heap := h', toks := tk }) :
    wpAt (model prog w) A (.func body (ksEnv q scope L fI (.ref cda) cc)) (exec (supS m j a1 a2 a3 a4 a5 a6) (ksEnv q scope L fI (.ref cda) cc)) Q E s := by
  obtain ⟨nm, qn, N, bs, bm, sn, sub, ab, col, dd, k0, k1, k2, k3, k5, hC, hbm⟩ := T.cls
  have hcl : clsIn K C = some { name := nm, bases := bs, mro := .ref C :: bm, ns := N, qualname := qn, hasDict := true, slotNames := sn, subclasses := sub, abstract := ab, collection := col, hasDel := false } := by unfold clsIn; rw [hC] <;> rfl
  refine ks_wpAt_Expr_any (ks_wpAt_MethodCall ?_ (se _)) (by unfold interactive; rw [show (ksEnv q scope L fI (.ref cda) cc).scope.kind = .function from hk]; rfl)
  obtain ⟨hh, g, d, t, os⟩ := s
  obtain ⟨oD, hD1, hD2⟩ : ∃ oD, hh.get? C = some oD ∧ oD.data = .cls { name := nm, bases := bs, mro := .ref C :: bm, ns := N, qualname := qn, hasDict := true, slotNames := sn, subclasses := sub, abstract := ab, collection := col, hasDel := false } := ⟨_, X _ _ hC, rfl⟩
  refine ks_wpAt_super_base (env := ksEnv q scope L fI (.ref cda) cc) hks hkc (by decide) rfl (X _ _ hf) rfl hp rfl (X _ _ hcode) rfl hvs hfile htop ?_
  refine ks_loadName_global hk hks (loadGlobal_builtin (env := ksEnv q scope L fI (.ref cda) cc) hg gs hb hbb ⟨rfl, ?_⟩)
  refine wpAny_loadName_free hk hkc rfl ⟨_, X _ _ hcell, rfl⟩ ?_
  refine wpAny_loadName_local hk hka hns hv ?_
  refine ks_wpAny_isType_cls hD1 hD2 ⟨rfl, ?_⟩
  refine ks_wpAny_call_super hD1 hD2 hx rfl (fun c e => by cases e) (looks_mroIn X hmro) (fun h1 e1 k1 => ?_)
  have X1 : K.In h1 := X.keeps k1
  have I1 : InstAt h1 x (excO C t0) C none := ⟨k1 _ _ hx, rfl, rfl, trivial⟩
  have hI : Looks (model prog w) h1 (isInstance (.ref x) (.type "ValueError")) true := I1.type.andThen (looks_subIn X1 hsubV)
  have hm' : alongIn K "__init__" ((((.ref C :: bm : List Value)).dropWhile (· != .ref C)).drop 1) = some (some (.builtin "ValueError.__init__")) := by
    have q1 := hsup
    unfold ks_superIn at q1
    rw [hcl] at q1
    exact q1
  refine kxs_getMethod kxs_ValueError e1 (looks_opaque X1 hop) (l₀ := .ref C :: bm) (fun A Q E s k q => wpAny_bind ((looks_clsIn X1 hcl) A _ E s k (wpAny_pure q))) rfl X1 hm' hI (ks_ne X1 I1 hcl) (by decide) ?_
  -- the call
  have e2 : (h1.push (kxs_mw "ValueError.__init__" x)).get? h1.objs.size = some (kxs_mw "ValueError.__init__" x) := Heap.get?_push_at rfl rfl
  have k2' : ∀ b o, h1.get? b = some o → (h1.push (kxs_mw "ValueError.__init__" x)).get? b = some o := fun b o e => Heap.get?_push_of_some _ e
  have hx2 := k2' _ _ (k1 _ _ hx)
  have hC2 := k2' _ _ (k1 _ _ (X _ _ hC))
  show wpAny _ _ (callWith a5 (.ref h1.objs.size) [] (backTo a5 (starEach [.Constant (.str m) j a4] _)) []) _ _ _
  refine kxs_callWith (i := "ValueError.__init__") (x := x) (by rfl) ?_
  refine evalArgs_plain (spliced_cons ?_)
  show wpAny _ _ (eval (.Constant (.str m) j a4) _) _ _ _
  refine Constant_str ?_
  refine spliced_nil ⟨e2, ?_⟩
  show wpAny _ _ (call (.ref h1.objs.size) [Value.str m (t + 1)]) _ _ _
  refine wpAny_call (codeAny_of_tree ?_)
  show wpAny _ _ (callAny (.ref h1.objs.size) ⟨[Value.str m (t + 1)], []⟩) _ _ _
  simp only [callAny]
  refine wpAny_bind (wpAny_load e2 ?_)
  simp only [kxs_mw, show (Value.type "method-wrapper" == Value.type "method" || Value.type "method-wrapper" == Value.type "builtin_function_or_method" || Value.type "method-wrapper" == Value.type "method-wrapper") = true by decide, if_true]
  refine KFB.if_so (by decide) ?_
  refine wpAny_bind (check_bound_init F.excBase_ValueError.toExcCallFacts hC2 hx2 rfl ?_)
  refine wpAny_bind (wpAny_pure (wpAny_pure ?_))
  refine ⟨plainId_quiet F.excBase_ValueError.init.plain _, codeAny_builtin F.excBase_ValueError.initEntry ?_⟩
  refine exc_init_tree (cls := .ref C) (t0 := t0) (dv := none) (c2 := .none) (c3 := .none) (b4 := .bool false) hx2 (by show 1 ≤ sizeLine; decide) fun h' k3 e3 _ => ?_
  refine h h' _ (h1.push (kxs_mw "ValueError.__init__" x)).objs.size (fun b o hb e => k3 b o hb (k2' _ _ (k1 _ _ e))) e3
end
/-- what the fields hold, the last one first -/
def nsOf : List (Str × Value) → Str → Option Value
  | [] => fun _ => none
  | (f, v) :: r => fun y => if y = f then some v else nsOf r y
/-- what such an __init__ leaves of a fresh exception at x -/
structure InitEnd (h h' : Heap) (x C dx t1 : Addr) (fs : List (Str × Value)) : Prop where
  keep : ∀ b o, b ≠ x → h.get? b = some o → h'.get? b = some o
  obj : h'.get? x = some { cls := .ref C, dict := some dx, data := .fields #[.ref t1, .none, .none, .none, .bool false, .none] }
  dbig : h.objs.size ≤ dx
  dne : dx ≠ x
  ns : h'.Ns1 dx (nsOf fs)
/-- the scope of such an __init__ -/
structure ScOk (sc : Scope) (nms : List Str) : Prop where
  ks : sc.names.lookup ("super" : Str) = some .globalImplicit
  kc : sc.names.lookup ("__class__" : Str) = some .free
  kd : sc.kind = .function
  co : sc.isCoroutine = false
  ge : sc.isGenerator = false
  ce : ∀ x ∈ sc.names, x.2 ≠ .cell
  lo : ∀ n ∈ ("self" : Str) :: nms, sc.names.lookup n = some .local
def BindOk (qual : Str) (pa : Arguments) (bd : List Stmt) (sc : Scope) (nms : List Str) : Prop :=
  ∀ (kV doc pm : Value) (an : Option Addr) (cdv ct : Value) (cc : Addr) (us : List Value), us.length = nms.length + 1 → bindArgs (ksFn "__init__" qual pa bd sc .none kV doc pm an cdv ct cc) ⟨us, []⟩ = pure ((("self" : Str) :: nms).zip us)
/-- such an __init__ runs -/
def InitRuns (prog : Program) (K : Frag) (mg : Str → Option Value) (C fI : Addr) (nms : List Str) : Prop :=
  ∀ (w : World) (A : Around) (s : Shared) (R : Result → Shared → Prop) (x t0 : Addr) (us : List Value) (mb : Str → Option Value), us.length = nms.length → K.In s.heap → s.heap.NoLimit → s.heap.Ns mainGlobals mg → s.heap.Ns builtinsNs mb → mb "super" = some (.type "super") →
    s.heap.get? x = some (excO C t0) → K.lookup x = none → A.depth < recursionLimit → (∀ h' tk dx t1, InitEnd s.heap h' x C dx t1 (nms.zip us).reverse → R (.ok (.ret .none)) { s with heap := h', toks := tk }) →
    codeAny (model prog w) A (.call (.ref fI) ⟨.ref x :: us, []⟩) R s
section
variable {prog : Program} {K : Frag} {mg : Str → Option Value} {C fI : Addr} {qual : Str} {pa : Arguments} {sc : Scope} {f g m : Str} {j : Nat} {a1 a2 a3 a4 a5 a6 q1 q2 q3 q4 r1 r2 r3 r4 : Pos} {ar : Arg}
theorem ldL {M : Model} {A : Around} {E : Value → Shared → Prop} {s : Shared} {env : Env} {m : Str → Option Value} {x : Str} {pos : Pos} {v : Value} {Q : Value → Shared → Prop} (hn : s.heap.Ns env.locals m) (hv : m x = some v) (h : Q v s)
    (hk : env.scope.kind = .function) (hl : env.kindOf x = some .local) (hd : (x == ("__debug__" : Str)) = false := by decide) : wpAny M A (eval (.Name x pos) env) Q E s := wpAny_Name (wpAny_loadName_local hk hl hn hv h) hd
theorem kept_but {K : Frag} {h h' : Heap} {x : Addr} (X : K.In h) (hx : K.lookup x = none) (k : ∀ b o, b ≠ x → h.get? b = some o → h'.get? b = some o) : K.In h' := fun a o e =>
  k a o (fun z => by rw [z, hx] at e; cases e) (X a o e)
theorem assign_attr {w : World} {A : Around} {E : Value → Shared → Prop} {s : Shared} {env : Env} {x : Addr} {v : Value} {mL : Str → Option Value} {Q : Flow → Shared → Prop} (hn : s.heap.Ns env.locals mL) (hf : mL f = some v) (hs : mL "self" = some (.ref x))
    (hk : env.scope.kind = .function) (h1 : env.kindOf f = some .local) (h2 : env.kindOf "self" = some .local) (hd : (f == ("__debug__" : Str)) = false) (hsw : swapsWith (.Name f q3) (some (.Attribute (.Name "self" q1) f q2)) q4.line env = pure false)
    (h : wpAny (model prog w) A (setAttr (.ref x) f v) (fun _ => Q .next) E s) : wpAny (model prog w) A (exec (fldS f q1 q2 q3 q4) env) Q E s := by
  refine plainObj_wpAny_Assign_Attribute ?_ hsw
  exact ldL hn hf (ldL hn hs h hk h2) hk h1 hd
theorem init1 (T : ExcT K C) (I : InitT prog K mg C fI qual pa [supS m j a1 a2 a3 a4 a5 a6, fldS f q1 q2 q3 q4] sc) (se : SupEq m j a1 a2 a3 a4 a5) (so : ScOk sc [f]) (bo : BindOk qual pa [supS m j a1 a2 a3 a4 a5 a6, fldS f q1 q2 q3 q4] sc [f])
    (hp : (pa.posonlyargs ++ pa.args).head? = some ar) (har : ar.arg = ("self" : Str)) (hfs : (f == ("self" : Str)) = false) (hfd : (f == ("__debug__" : Str)) = false) (hno : findIn K (.ref C) f = some none)
    (hsw : ∀ env : Env, swapsWith (.Name f q3) (some (.Attribute (.Name "self" q1) f q2)) q4.line env = pure false) : InitRuns prog K mg C fI [f] := by
  intro w A s R x t0 us mb hus X hlim hg hb hbb hx hnx hroom hq
  obtain ⟨v, rfl⟩ : ∃ v, us = [v] := by
    match us, hus with
    | [v], _ => exact ⟨v, rfl⟩
  obtain ⟨oc, od, kV, doc, pm, an, ct, osl, cda, cc, ho, hcd, ⟨ccl, cdd, vs, ccs, file, tf, hcode, hvs, hfile⟩, ⟨cl, cld, csl, hcell⟩⟩ := I.fn
  obtain ⟨nm, q, N, bs, bm, sn, sub, ab, col, dd, k0, k1, k2, k3, k5, hC, hbm⟩ := T.ox.cls
  have hcl : clsIn K C = some { name := nm, bases := bs, mro := .ref C :: bm, ns := N, qualname := q, hasDict := true, slotNames := sn, subclasses := sub, abstract := ab, collection := col, hasDel := false } := by unfold clsIn; rw [hC] <;> rfl
  refine ks_codeAny_call_defAt (fd := ksFn "__init__" qual pa [supS m j a1 a2 a3 a4 a5 a6, fldS f q1 q2 q3 q4] sc .none kV doc pm an (.ref cda) ct cc) (body := [supS m j a1 a2 a3 a4 a5 a6, fldS f q1 q2 q3 q4]) (binds := [("self", .ref x), (f, v)]) hroom (X _ _ ho) rfl hlim (codeRec_of X hcd) rfl (BindsTo.of_eq (bo _ _ _ _ _ _ _ [.ref x, v] rfl)) so.ce (fun y hy => ?_) (fun h₁ hns k₁ => ?_) so.co so.ge so.kd
  · have hy' : y = (("self" : Str), Value.ref x) ∨ y = (f, v) := by simpa using hy
    rcases hy' with rfl | rfl
    · exact so.lo _ (by simp)
    · exact so.lo _ (by simp)
  · have hxL : s.heap.objs.size ≠ x := Nat.ne_of_gt (Heap.lt_size hx)
    have m1 : (fun y : Str => List.lookup y (List.reverse [(("self" : Str), Value.ref x), (f, v)])) f = some v := by simp [List.lookup]
    have hsf : (("self" : Str) == f) = false := by
      rw [beq_eq_false_iff_ne] at hfs ⊢
      exact fun z => hfs z.symm
    have m2 : (fun y : Str => List.lookup y (List.reverse [(("self" : Str), Value.ref x), (f, v)])) "self" = some (.ref x) := by simp [List.lookup, hsf]
    have X₁ : K.In h₁ := X.keeps k₁
    show wpAt (model prog w) (A.deeper (ksEnv qual sc s.heap.objs.size fI (.ref cda) cc)) (.func _ (ksEnv qual sc s.heap.objs.size fI (.ref cda) cc)) (execs _ (ksEnv qual sc s.heap.objs.size fI (.ref cda) cc)) _ _ _
    refine ks_wpAt_execs_cons ?_
    refine sup_stmt (mg := mg) (mb := mb) (fd := ksFn "__init__" qual pa [supS m j a1 a2 a3 a4 a5 a6, fldS f q1 q2 q3 q4] sc .none kV doc pm an (.ref cda) ct cc) T.ox X₁ hns (hg.keeps k₁) (hb.keeps k₁) hbb ho hp (by rw [har]; exact m2) (k₁ _ _ hx) hcode hvs hfile hcell I.mro I.sup I.subV I.opq I.gs I.top so.ks so.kc (by rw [har]; exact so.lo _ (by simp)) so.kd (Ne.symm hxL) se fun h₂ tk₂ t1 k₂ hx₂ => ?_
    have hns₂ : h₂.Ns s.heap.objs.size (fun y => List.lookup y (List.reverse [(("self" : Str), Value.ref x), (f, v)])) := by
      obtain ⟨oL, es, ep, hL, r⟩ := hns
      exact ⟨oL, es, ep, k₂ _ _ hxL hL, r⟩
    have X₂ : K.In h₂ := kept_but X₁ hnx k₂
    refine wpAt_of_wpAny (wpAny_execs_cons (assign_attr (x := x) (v := v) hns₂ m1 m2 so.kd (so.lo _ (by simp)) (so.lo _ (by simp)) hfd (hsw _) ?_))
    refine set_plain X₂ (ox := excO C t1) (od := none) ⟨hx₂, rfl, rfl, trivial⟩ T.ox.sa ?_
    refine exc_osa X₂ hx₂ hcl (show refsVE (.ref C :: bm) = true from hbm) rfl hno (fun h₃ tk₃ dx k₃ dn dne hx₃ hn₃ => ?_)
    have z2 : s.heap.objs.size < h₂.objs.size := hns₂.lt
    exact wpAny_execs_nil (hq h₃ tk₃ dx t1 ⟨fun b o hb e => k₃ b o hb (k₂ b o hb (k₁ b o e)), hx₃, Nat.le_of_lt (Nat.lt_of_lt_of_le z2 dn), dne, hn₃⟩)
theorem init2 (T : ExcT K C) (I : InitT prog K mg C fI qual pa [supS m j a1 a2 a3 a4 a5 a6, fldS f q1 q2 q3 q4, fldS g r1 r2 r3 r4] sc) (se : SupEq m j a1 a2 a3 a4 a5) (so : ScOk sc [f, g]) (bo : BindOk qual pa [supS m j a1 a2 a3 a4 a5 a6, fldS f q1 q2 q3 q4, fldS g r1 r2 r3 r4] sc [f, g])
    (hp : (pa.posonlyargs ++ pa.args).head? = some ar) (har : ar.arg = ("self" : Str)) (hfs : (f == ("self" : Str)) = false) (hgs : (g == ("self" : Str)) = false) (hfg : (f == g) = false) (hfd : (f == ("__debug__" : Str)) = false) (hgd : (g == ("__debug__" : Str)) = false)
    (hno : findIn K (.ref C) f = some none) (hno2 : findIn K (.ref C) g = some none)
    (hsw : ∀ env : Env, swapsWith (.Name f q3) (some (.Attribute (.Name "self" q1) f q2)) q4.line env = pure false) (hsw2 : ∀ env : Env, swapsWith (.Name g r3) (some (.Attribute (.Name "self" r1) g r2)) r4.line env = pure false) : InitRuns prog K mg C fI [f, g] := by
  intro w A s R x t0 us mb hus X hlim hg hb hbb hx hnx hroom hq
  obtain ⟨v, u, rfl⟩ : ∃ v u, us = [v, u] := by
    match us, hus with
    | [v, u], _ => exact ⟨v, u, rfl⟩
  obtain ⟨oc, od, kV, doc, pm, an, ct, osl, cda, cc, ho, hcd, ⟨ccl, cdd, vs, ccs, file, tf, hcode, hvs, hfile⟩, ⟨cl, cld, csl, hcell⟩⟩ := I.fn
  obtain ⟨nm, q, N, bs, bm, sn, sub, ab, col, dd, k0, k1, k2, k3, k5, hC, hbm⟩ := T.ox.cls
  have hcl : clsIn K C = some { name := nm, bases := bs, mro := .ref C :: bm, ns := N, qualname := q, hasDict := true, slotNames := sn, subclasses := sub, abstract := ab, collection := col, hasDel := false } := by unfold clsIn; rw [hC] <;> rfl
  refine ks_codeAny_call_defAt (fd := ksFn "__init__" qual pa [supS m j a1 a2 a3 a4 a5 a6, fldS f q1 q2 q3 q4, fldS g r1 r2 r3 r4] sc .none kV doc pm an (.ref cda) ct cc) (body := [supS m j a1 a2 a3 a4 a5 a6, fldS f q1 q2 q3 q4, fldS g r1 r2 r3 r4]) (binds := [("self", .ref x), (f, v), (g, u)]) hroom (X _ _ ho) rfl hlim (codeRec_of X hcd) rfl (BindsTo.of_eq (bo _ _ _ _ _ _ _ [.ref x, v, u] rfl)) so.ce (fun y hy => ?_) (fun h₁ hns k₁ => ?_) so.co so.ge so.kd
  · have hy' : y = (("self" : Str), Value.ref x) ∨ y = (f, v) ∨ y = (g, u) := by simpa using hy
    rcases hy' with rfl | rfl | rfl
    · exact so.lo _ (by simp)
    · exact so.lo _ (by simp)
    · exact so.lo _ (by simp)
  · have hxL : s.heap.objs.size ≠ x := Nat.ne_of_gt (Heap.lt_size hx)
    have hsf : (("self" : Str) == f) = false := by
      rw [beq_eq_false_iff_ne] at hfs ⊢
      exact fun z => hfs z.symm
    have hsg : (("self" : Str) == g) = false := by
      rw [beq_eq_false_iff_ne] at hgs ⊢
      exact fun z => hgs z.symm
    have m1 : (fun y : Str => List.lookup y (List.reverse [(("self" : Str), Value.ref x), (f, v), (g, u)])) f = some v := by simp [List.lookup, hfg]
    have m3 : (fun y : Str => List.lookup y (List.reverse [(("self" : Str), Value.ref x), (f, v), (g, u)])) g = some u := by simp [List.lookup]
    have m2 : (fun y : Str => List.lookup y (List.reverse [(("self" : Str), Value.ref x), (f, v), (g, u)])) "self" = some (.ref x) := by simp [List.lookup, hsf, hsg]
    have X₁ : K.In h₁ := X.keeps k₁
    show wpAt (model prog w) (A.deeper (ksEnv qual sc s.heap.objs.size fI (.ref cda) cc)) (.func _ (ksEnv qual sc s.heap.objs.size fI (.ref cda) cc)) (execs _ (ksEnv qual sc s.heap.objs.size fI (.ref cda) cc)) _ _ _
    refine ks_wpAt_execs_cons ?_
    refine sup_stmt (mg := mg) (mb := mb) (fd := ksFn "__init__" qual pa [supS m j a1 a2 a3 a4 a5 a6, fldS f q1 q2 q3 q4, fldS g r1 r2 r3 r4] sc .none kV doc pm an (.ref cda) ct cc) T.ox X₁ hns (hg.keeps k₁) (hb.keeps k₁) hbb ho hp (by rw [har]; exact m2) (k₁ _ _ hx) hcode hvs hfile hcell I.mro I.sup I.subV I.opq I.gs I.top so.ks so.kc (by rw [har]; exact so.lo _ (by simp)) so.kd (Ne.symm hxL) se fun h₂ tk₂ t1 k₂ hx₂ => ?_
    have hns₂ : h₂.Ns s.heap.objs.size (fun y => List.lookup y (List.reverse [(("self" : Str), Value.ref x), (f, v), (g, u)])) := by
      obtain ⟨oL, es, ep, hL, r⟩ := hns
      exact ⟨oL, es, ep, k₂ _ _ hxL hL, r⟩
    have X₂ : K.In h₂ := kept_but X₁ hnx k₂
    refine wpAt_of_wpAny (wpAny_execs_cons (assign_attr (x := x) (v := v) hns₂ m1 m2 so.kd (so.lo _ (by simp)) (so.lo _ (by simp)) hfd (hsw _) ?_))
    refine set_plain X₂ (ox := excO C t1) (od := none) ⟨hx₂, rfl, rfl, trivial⟩ T.ox.sa ?_
    refine exc_osa X₂ hx₂ hcl (show refsVE (.ref C :: bm) = true from hbm) rfl hno (fun h₃ tk₃ dx k₃ dn dne hx₃ hn₃ => ?_)
    have z2 : s.heap.objs.size < h₂.objs.size := hns₂.lt
    have hns₃ : h₃.Ns s.heap.objs.size (fun y => List.lookup y (List.reverse [(("self" : Str), Value.ref x), (f, v), (g, u)])) := by
      obtain ⟨oL, es, ep, hL, r⟩ := hns₂
      exact ⟨oL, es, ep, k₃ _ _ hxL hL, r⟩
    have X₃ : K.In h₃ := kept_but X₂ hnx k₃
    have hw : Within (fun y => if y = f then some v else none) [f] := fun y hy => by
      by_cases e : y = f
      · rw [e]
        exact List.mem_cons_self ..
      · exact absurd (if_neg e) hy
    obtain ⟨oD, _, _, hoD, _, _⟩ := hn₃.count hw
    refine wpAny_execs_cons (assign_attr (x := x) (v := u) hns₃ m3 m2 so.kd (so.lo _ (by simp)) (so.lo _ (by simp)) hgd (hsw2 _) ?_)
    refine set_plain X₃ (ox := { cls := .ref C, dict := some dx, data := .fields #[.ref t1, .none, .none, .none, .bool false, .none] }) (od := some oD) ⟨hx₃, rfl, rfl, hoD⟩ T.ox.sa ?_
    refine OEX.osa_old X₃ hx₃ hn₃ hw (by show 1 ≤ 1000; decide) hcl (show refsVE (.ref C :: bm) = true from hbm) rfl hno2 (fun h₄ tk₄ k₄ hn₄ => ?_)
    exact wpAny_execs_nil (hq h₄ tk₄ dx t1 ⟨fun b o hb e => k₄ b o (Nat.ne_of_lt (Nat.lt_of_lt_of_le (Nat.lt_trans (Heap.lt_size e) z2) dn)) (k₃ b o hb (k₂ b o hb (k₁ b o e))), k₄ x _ (Ne.symm dne) hx₃, Nat.le_of_lt (Nat.lt_of_lt_of_le z2 dn), dne, hn₄⟩)
/-- C(us) -/
theorem made (T : ExcT K C) (iC : findIn K (.ref C) "__init__" = some (some (.ref fI))) (tC : typeIn K (.ref fI) = some (.type "function")) {nms : List Str} (IR : InitRuns prog K mg C fI nms) {w : World} {A : Around} {s : Shared} {R : Result → Shared → Prop} {us : List Value} {mb : Str → Option Value}
    (hus : us.length = nms.length) (hz : us.length ≤ sizeLine) (X : K.In s.heap) (hlim : s.heap.NoLimit) (hg : s.heap.Ns mainGlobals mg) (hb : s.heap.Ns builtinsNs mb) (hbb : mb "super" = some (.type "super")) (hroom : A.depth + 1 < recursionLimit)
    (hq : ∀ h' tk e dx t1, s.heap.objs.size ≤ e → (∀ b o, s.heap.get? b = some o → h'.get? b = some o) → h'.get? e = some { cls := .ref C, dict := some dx, data := .fields #[.ref t1, .none, .none, .none, .bool false, .none] } → s.heap.objs.size ≤ dx → dx ≠ e → h'.Ns1 dx (nsOf (nms.zip us).reverse) →
      R (.ok (.ret (.ref e))) { s with heap := h', toks := tk }) :
    codeAny (model prog w) A (.call (.ref C) ⟨us, []⟩) R s := by
  obtain ⟨nm, q, N, bs, bm, sn, sub, ab, col, dd, k0, k1, k2, k3, k5, hC, hbm⟩ := T.ox.cls
  obtain ⟨hp, g, dr, tk, os⟩ := s
  have k : ∀ b o, hp.get? b = some o → ((hp.push (kdv_tup us)).push (excO C hp.objs.size)).get? b = some o := fun b o e => Heap.get?_push_of_some _ (Heap.get?_push_of_some _ e)
  have hget : ((hp.push (kdv_tup us)).push (excO C hp.objs.size)).get? (hp.objs.size + 1) = some (excO C hp.objs.size) := by heap_get
  have hnx : K.lookup (hp.objs.size + 1) = none := by
    cases e : K.lookup (hp.objs.size + 1) with
    | none => rfl
    | some o =>
      have z : hp.get? (hp.objs.size + 1) = some o := X _ _ e
      exact absurd (Nat.lt_of_succ_lt (Heap.lt_size z)) (Nat.lt_irrefl _)
  refine call_own F.excBase_ValueError (fun X => refsVE_contains X bm hbm) (X _ _ hC) (looks_findIn X iC) (fun self => bind_fn X self tC) hz ?_
  refine IR w _ ⟨(hp.push (kdv_tup us)).push (excO C hp.objs.size), g, dr, tk, os⟩ _ (hp.objs.size + 1) hp.objs.size us mb hus (X.keeps k) (hlim.keeps k) (hg.keeps k) (hb.keeps k) hbb hget hnx ?_ fun h' tk' dx t1 ⟨k', hx, dn, dne, hns⟩ => ?_
  · show A.depth + 1 < recursionLimit
    exact hroom
  · have old : ∀ b o, hp.get? b = some o → h'.get? b = some o := fun b o e => k' b o (Nat.ne_of_lt (Nat.lt_succ_of_lt (Heap.lt_size e))) (k b o e)
    have z : hp.objs.size + 1 + 1 ≤ dx := by
      first
        | (simpa only [Heap.size_push] using dn)
        | exact dn
        | (have q := dn; rw [Heap.size_push, Heap.size_push] at q; exact q)
    exact ⟨rfl, hq h' tk' (hp.objs.size + 1) dx t1 (Nat.le_succ _) old hx (Nat.le_trans (Nat.le_trans (Nat.le_succ _) (Nat.le_succ _)) z) dne hns⟩
end
end LX
end PySem
namespace L2
open PySem PySem.Spec PyProof.Rows
theorem relO_ns : ∀ {fs : List (Str × V)} {us : List (Str × Value)}, Paired (fun (p : Str × V) (q : Str × Value) => p.1 = q.1 ∧ RelV p.2 q.2) fs us → ∀ f, RelO (fs.lookup f) (PySem.LX.nsOf us f)
  | _, _, .nil, f => True.intro
  | _, _, .cons (a := (g, v)) (b := (g', u)) r t, f => by
    obtain ⟨e, rv⟩ := r
    have e' : g = g' := e
    subst e'
    rw [lookup_put]
    show RelO _ (if f = g then some u else PySem.LX.nsOf _ f)
    by_cases h : f = g
    · rw [if_pos h, if_pos h]
      exact rv
    · rw [if_neg h, if_neg h]
      exact relO_ns t f
theorem paired_app {α β : Type} {F : α → β → Prop} {k₁ : List α} {k₂ : List β} {l₁ : List α} {l₂ : List β} (h : Paired F l₁ l₂) (g : Paired F k₁ k₂) : Paired F (l₁ ++ k₁) (l₂ ++ k₂) := by
  induction h with
  | nil => exact g
  | cons r t ih => exact .cons r ih
theorem paired_rev {α β : Type} {F : α → β → Prop} {l₁ : List α} {l₂ : List β} (h : Paired F l₁ l₂) : Paired F l₁.reverse l₂.reverse := by
  induction h with
  | nil => exact .nil
  | cons r t ih =>
    rw [List.reverse_cons, List.reverse_cons]
    exact paired_app ih (.cons r .nil)
theorem paired_zip {nms : List Str} : ∀ {vs : List V} {us : List Value}, Vals vs us → Paired (fun (p : Str × V) (q : Str × Value) => p.1 = q.1 ∧ RelV p.2 q.2) (nms.zip vs) (nms.zip us) := by
  induction nms with
  | nil => intro vs us _; exact .nil
  | cons n r ih =>
    intro vs us h
    cases h with
    | nil => exact .nil
    | cons q t => exact .cons ⟨rfl, q⟩ (ih t)
section
variable {X : Cx} {C fI : Addr}
/-- C(e, ..) -/
def tMkX (C : Addr) (nms : List Str) (ta : TA) : St → Hp → XK → Prop := fun σ H Q => ta σ H fun vs H1 => vs.length = nms.length ∧ nms.length ≤ 10 ∧ ∀ d, H1 d = none → Q (.ref C) (some d) (upd H1 d (.xd (nms.zip vs).reverse))
theorem pmk_x {e : Expr} {es : List Expr} {ta : TA} {x : Str} {p pos : Pos} {k : Nat} {nms : List Str} (T : PySem.LX.ExcT X.K C) (iC : PySem.W.findIn X.K (.ref C) "__init__" = some (some (.ref fI))) (tC : PySem.W.typeIn X.K (.ref fI) = some (.type "function"))
    (IR : PySem.LX.InitRuns X.prog X.K X.mg C fI nms) (gC : X.mg x = some (.ref C)) (hr : Room k X.A) (ha : PA X (e :: es) ta) (hg : Gl X x) (hdb : (x == ("__debug__" : Str)) = false := by decide)
    (he : starEach (e :: es) X.env = (false, eval e X.env) :: starEach es X.env := by rfl) (hpl : (backTo pos (starEach es X.env)).any (·.1) = false := by rfl) :
    L2N.PMk X (.Call (.Name x p) (e :: es) [] pos) (tMkX C nms ta) := by
  intro pins s σ H Q I h
  refine wpAny_Call_Name_kw (ld_glob I hg gC ?_ hdb)
  refine PySem.W.callWith_K (h₀ := X.base) I.ok.mod.kin T.ox.kC (thn (ha.run pos pins s σ H _ I h) fun us s1 hh => ?_) he hpl
  obtain ⟨vs, H1, I1, r1, hl, hten, q1⟩ := hh
  refine ⟨I1.kIn, ?_⟩
  show wpAny _ _ (call (.ref C) us) _ _ _
  have hlim := I1.nolimit
  obtain ⟨mb, b1, b2⟩ := I1.mod.blt
  have hlu : us.length = nms.length := by rw [← r1.length, hl]
  have hG : s1.heap.Ns mainGlobals X.mg := I1.mod.glob.keeps I1.bk
  have hB : s1.heap.Ns builtinsNs mb := b1.keeps I1.bk
  obtain ⟨hp, g, dr, tk, os⟩ := s1
  refine wpAny_call (PySem.LX.made T iC tC IR hlu (by rw [hlu, sizeLine_eq]; omega) I1.kIn hlim hG hB ((b2 "super" (by decide)).trans (by decide +kernel)) (by have := hr.dp; omega) fun h' tk' e' d t1 hne old hoe hdb' dne hns => ?_)
  show L2N.MkP X pins σ Q (.ref e') ⟨h', g, dr, tk', os⟩
  obtain ⟨G', g1, g2⟩ := restrict h' fun b => decide (b ≠ e')
  have gk : ∀ b, b ≠ e' → G'.get? b = h'.get? b := fun b hb => g1 b (decide_eq_true hb)
  have ge : G'.get? e' = none := g2 e' (by simp)
  have old' : ∀ b o, hp.get? b = some o → G'.get? b = some o := fun b o q => (gk b (Nat.ne_of_lt (Nat.lt_of_lt_of_le (Heap.lt_size q) hne))).trans (old b o q)
  have ob : ObjOk X.prog X.w (upd H1 d (.xd (nms.zip vs).reverse)) G' d (.xd (nms.zip vs).reverse) :=
    ⟨_, hns.at (fun o q => (gk d dne).trans q), relO_ns (paired_rev (paired_zip r1))⟩
  have J : Inv X pins σ (upd H1 d (.xd (nms.zip vs).reverse)) ⟨G', g, dr, tk', os⟩ := I1.laid (t' := tk') old' hdb' ob
  refine ⟨e', _, _, ⟨G', g, dr, tk', os⟩, _, .ref C, some d, rfl, J, fun b o q => ?_, ge, hoe, ⟨rfl, rfl, fun vs e => by cases e; rfl⟩, rfl, rfl, ?_, rfl, I1.bare, raises_own T.ox.exC T.ox.tyC, q1 d (I1.hok.fresh hdb')⟩
  · by_cases hb : b = e'
    · have q' : G'.get? b = some o := q
      rw [hb, ge] at q'; cases q'
    · exact (gk b hb).symm.trans q
  · rw [upd_ne (Ne.symm dne)]
    exact I1.hok.fresh hne
end
end L2

namespace PySem.W
open PySem PySem.Spec PySem.Calls PyProof.Rows
theorem kitx_excD {K : Frag} {x D : Addr} {ox : Obj} (T : PySem.LX.ExcT K D) : KitX K (.ref x) (.ref D) (fun h => ∃ od, InstAt h x ox D od) where
  ty := fun _ _ _ ⟨_, I⟩ => I.type
  it := fun _ _ X _ => by
    obtain ⟨cdD, hcD, _⟩ := any_some T.hd
    unfold clsIn at hcD
    split at hcD
    · rename_i c' d' cd' sl' ho
      intro A' Q' E' s' k q
      unfold isType loadHead
      exact wpAny_bind (wpAny_loadPart (k _ _ (X _ _ ho)) (wpAny_pure q))
    · cases hcD
  ne := fun h tp dd its n sl X htp => by
    obtain ⟨cdD, hcD, _⟩ := any_some T.hd
    refine Bool.eq_false_iff.mpr fun q => ?_
    have e : D = tp := Value.ref.inj (beq_iff_eq.mp q)
    subst e
    unfold clsIn at hcD
    split at hcD
    · rename_i c' d' cd' sl' ho
      have z := (X _ _ ho).symm.trans htp
      cases z
    · cases hcD
  ca := fun X ⟨_, I⟩ k => kx_classE X I T.ga T.gg T.ox.exC (findObj_dataE (by obtain ⟨cd, hc, _⟩ := any_some T.hd; rw [hc]; rfl) T.ha T.hn T.ht) T.hm k
end PySem.W
namespace L2
open PySem PySem.Spec PyProof.Rows
/-- d is the exception's own dict, or it has none -/
def DOk (H : Hp) (d : Option Addr) : Prop := d = none ∨ ∃ dd fs, d = some dd ∧ H dd = some (.xd fs)
theorem inst_exc {X : Cx} {a C : Addr} {oe : Obj} {cls : Value} {d : Option Addr} {pn pins : List (Addr × Obj)} {σ : St} {H : Hp} {s : Shared} (hz : Zc cls d oe) (hf : ∃ vs, oe.data = .fields vs) (I : Inv (X.suite a ((a, oe) :: pn)) pins σ H s) (hc : cls = .ref C) (hd : DOk H d) : ∃ od, PySem.W.InstAt s.heap a oe C od := by
  obtain ⟨hget, _⟩ := I.pin (a, oe) (List.mem_append.mpr (.inl List.mem_cons_self))
  obtain ⟨vs, hv⟩ := hf
  subst hc
  rcases hd with rfl | ⟨dd, fs, rfl, hx⟩
  · refine ⟨none, hget, hz.1, by unfold PySem.W.notCls; rw [hv] <;> rfl, by rw [hz.2]; trivial⟩
  · have hx' : ObjOk X.prog X.w H s.heap dd (.xd fs) := I.hok dd _ hx
    obtain ⟨mA, hns, hr⟩ := hx'
    obtain ⟨od, ho, hl⟩ := lookIn_ns hns
    exact ⟨some od, hget, hz.1, by unfold PySem.W.notCls; rw [hv] <;> rfl, by rw [hz.2]; exact ho⟩
/-- isinstance(e, c), e the exception that the suite holds -/
def rIsX (K : PySem.W.Frag) (cls : Value) (d : Option Addr) (a : Addr) : List V → Hp → VK → Prop := fun xs H Q => ∃ (D : Addr) (c : V) (cv : Value) (b : Bool), cls = .ref D ∧ PySem.LX.ExcT K D ∧ DOk H d ∧ xs = [.ref a, c] ∧ (∀ u, RelV c u → u = cv) ∧ PySem.W.kitOne K (.ref D) cv = some b ∧ Q (.bl b) H
theorem call_isX {X : Cx} {a : Addr} {oe : Obj} {cls : Value} {d : Option Addr} {pn : List (Addr × Obj)} (hz : Zc cls d oe) (hf : ∃ vs, oe.data = .fields vs) : CallR (X.suite a ((a, oe) :: pn)) (.builtin "isinstance") (rIsX X.K cls d a) := by
  intro pins s σ H xs us Q I r h
  obtain ⟨D, c, cv, b, hc, T, hd, rfl, hcv, e, q⟩ := h
  cases r with
  | cons rx rr =>
    cases rr with
    | cons rt rr =>
      cases rr
      cases rx
      have ec := hcv _ rt
      subst ec
      exact PySem.W.kia_one (PySem.W.kitx_excD (ox := oe) T) I.kIn (inst_exc hz hf I hc hd) e (fun z => nomatch z) fun tk => ⟨.bl b, H, I.kept (t' := tk) fun _ _ z => z, rfl, q⟩
/-- e.f -/
def tXd (K : PySem.W.Frag) (a : Addr) (cls : Value) (d : Option Addr) (f : Str) (te : TE) : TE := fun σ H Q => te σ H fun x H1 => x = .ref a ∧ ∃ (C dd : Addr) (fs : List (Str × V)) (v : V), cls = .ref C ∧ d = some dd ∧ PySem.LX.ExcT K C ∧ PySem.W.findIn K (.ref C) f = some none ∧ H1 dd = some (.xd fs) ∧ fs.lookup f = some v ∧ Q v H1
theorem pe_xd {X : Cx} {a : Addr} {oe : Obj} {cls : Value} {d : Option Addr} {pn : List (Addr × Obj)} {e : Expr} {te : TE} {pos : Pos} {n : Str}
    (hz : Zc cls d oe) (hf : ∃ vs, oe.data = .fields vs) (he : PE (X.suite a ((a, oe) :: pn)) e te) (hb : attributeBase e n X.env (eval e X.env) = eval e X.env := by rfl) :
    PE (X.suite a ((a, oe) :: pn)) (.Attribute e n pos) (tXd X.K a cls d n te) := by
  refine ⟨fun pins s σ H Q I h => ?_⟩
  refine attr_of hb (thn (he.run pins s σ H _ I h) fun u s1 hh => ?_)
  obtain ⟨x, H1, I1, rx, ex, C, dd, fs, v, ec, ed, T, hno, ea, l, q⟩ := hh
  subst ex
  obtain rfl : u = Value.ref a := rx
  subst ec
  subst ed
  obtain ⟨ha, _⟩ := I1.pin (a, oe) (List.mem_append_left _ List.mem_cons_self)
  obtain ⟨vs, hd⟩ := hf
  have hx : ObjOk X.prog X.w H1 s1.heap dd (.xd fs) := I1.hok dd _ ea
  obtain ⟨mA, hns, hr⟩ := hx
  obtain ⟨od, ho, hl⟩ := lookIn_ns hns
  obtain ⟨u, hu, ru⟩ := RelO.some_of (v := v) (o := mA n) (by rw [← l]; exact hr n)
  have J : PySem.W.InstAt s1.heap a oe C (some od) := ⟨ha, hz.1, by unfold PySem.W.notCls; rw [hd] <;> rfl, by rw [hz.2]; exact ho⟩
  exact HandSPX.exc_get I1.kIn J T.ga T.gg T.ox.exC (PySem.W.findObj_own T.hd hno rfl (by rw [hl, hu])) (handed_of ru) ⟨v, H1, I1.tok _, ru, q⟩
end L2

/-! A calculus of weakest wishes over the hand layer: ZE (expressions), ZT (tests), ZA (arguments), ZS, ZSs (statements), by their syntax. -/
namespace L2
open PySem PySem.Spec PyProof.Rows
section
variable {X : Cx}
structure ZE (X : Cx) (e : Expr) (σ : St) (H : Hp) (Q : VK) : Prop where
  run : ∀ pins s, Inv X pins σ H s → wpAny (model X.prog X.w) X.A (eval e X.env) (EP X pins σ Q) X.xe s
structure ZT (X : Cx) (e : Expr) (σ : St) (H : Hp) (Q : Bool → Hp → Prop) : Prop where
  run : ∀ pins s, Inv X pins σ H s → wpAny (model X.prog X.w) X.A (isTrue e X.env (eval e X.env)) (TP X pins σ Q) X.xe s
structure ZW (X : Cx) (e : Expr) (σ : St) (H : Hp) (Q : Bool → Hp → Prop) : Prop where
  run : ∀ whole pins s, Inv X pins σ H s → wpAny (model X.prog X.w) X.A (isTrue e X.env whole) (TP X pins σ Q) X.xe s
structure ZA (X : Cx) (es : List Expr) (σ : St) (H : Hp) (Q : List V → Hp → Prop) : Prop where
  run : ∀ pos pins s, Inv X pins σ H s → wpAny (model X.prog X.w) X.A (spliced (backTo pos (starEach es X.env))) (AP X pins σ Q) X.xe s
abbrev NX := St → Hp → Prop
structure ZS (X : Cx) (st : Stmt) (nx : NX) (rt : VK) (bk ct : NX) (σ : St) (H : Hp) : Prop where
  run : ∀ pins s, Inv X pins σ H s → wpAny (model X.prog X.w) X.A (exec st X.env) (SP X pins ⟨nx, rt, bk, ct⟩) X.xe s
structure ZSs (X : Cx) (st : List Stmt) (nx : NX) (rt : VK) (bk ct : NX) (σ : St) (H : Hp) : Prop where
  run : ∀ pins s, Inv X pins σ H s → wpAny (model X.prog X.w) X.A (execs st X.env) (SP X pins ⟨nx, rt, bk, ct⟩) X.xe s
structure ZG (X : Cx) (tg : Expr) (v : V) (σ : St) (H : Hp) (Q : St → Hp → Prop) : Prop where
  run : ∀ pins s u, Inv X pins σ H s → RelV v u → wpAny (model X.prog X.w) X.A (assign tg X.env u) (fun _ s' => ∃ σ' H', Inv X pins σ' H' s' ∧ Q σ' H') X.xe s
structure ZGs (X : Cx) (ts : List Expr) (vs : List V) (σ : St) (H : Hp) (Q : St → Hp → Prop) : Prop where
  run : ∀ pins s us, Inv X pins σ H s → Vals vs us → wpAny (model X.prog X.w) X.A (assignInOrder ((assignEach ts X.env).map (·.2)) us) (fun _ s' => ∃ σ' H', Inv X pins σ' H' s' ∧ Q σ' H') X.xe s
structure ZI (X : Cx) (tg iter : Expr) (σ : St) (H : Hp) (R : It → Hp → Prop) : Prop where
  run : ∀ pins s, Inv X pins σ H s → wpAny (model X.prog X.w) X.A (eval iter X.env) (fun v s1 => wpAny (model X.prog X.w) X.A (pyIter v) (PIE X pins σ tg R) X.xe s1) X.xe s
structure OpW (X : Cx) (σ : St) (f : Value → Value → Sem Value) (x y : V) (H : Hp) (Q : VK) : Prop where
  run : ∀ pins s v u, Inv X pins σ H s → RelV x v → RelV y u → wpAny (model X.prog X.w) X.A (f v u) (EP X pins σ Q) X.xe s
structure UnW (X : Cx) (f : Value → Sem Value) (x : V) (H : Hp) (Q : VK) : Prop where
  run : ∀ pins s σ v, Inv X pins σ H s → RelV x v → wpAny (model X.prog X.w) X.A (f v) (EP X pins σ Q) X.xe s
structure CallW (X : Cx) (f : Value) (xs : List V) (H : Hp) (Q : VK) : Prop where
  run : ∀ pins s σ us, Inv X pins σ H s → Vals xs us → wpAny (model X.prog X.w) X.A (call f us) (EP X pins σ Q) X.xe s
structure TruW (X : Cx) (x : V) (H : Hp) (Q : Bool → Hp → Prop) : Prop where
  run : ∀ pins s σ v, Inv X pins σ H s → RelV x v → wpAny (model X.prog X.w) X.A (truthy v) (TP X pins σ Q) X.xe s
structure MtW (X : Cx) (id : String) (x : V) (xs : List V) (H : Hp) (Q : VK) : Prop where
  run : ∀ pins s σ v us, Inv X pins σ H s → RelV x v → Vals xs us → wpAny (model X.prog X.w) X.A (call (.builtin id) (v :: us)) (EP X pins σ Q) X.xe s
structure IxW (X : Cx) (σ : St) (x y : V) (H : Hp) (Q : VK) : Prop where
  run : ∀ value slice pins s v u, Inv X pins σ H s → RelV x v → RelV y u → subscripted slice false v u = operate [v, u] (getItem v u) → wpAny (model X.prog X.w) X.A (subscriptTail value slice v u) (EP X pins σ Q) X.xe s
structure AtW (X : Cx) (f : Str) (x : V) (H : Hp) (Q : VK) : Prop where
  run : ∀ pins s σ u, Inv X pins σ H s → RelV x u → wpAny (model X.prog X.w) X.A (getAttr u f true) (EP X pins σ Q) X.xe s
structure SetW (X : Cx) (o i v : V) (H : Hp) (Q : Hp → Prop) : Prop where
  run : ∀ pins s σ ov iv u, Inv X pins σ H s → RelV o ov → RelV i iv → RelV v u → wpAny (model X.prog X.w) X.A (setItem ov iv u) (fun _ s' => ∃ H', Inv X pins σ H' s' ∧ Q H') X.xe s
structure SlW (X : Cx) (x : V) (lo hi : Option Int) (H : Hp) (Q : VK) : Prop where
  run : ∀ pins s σ v vl vu sl, Inv X pins σ H s → RelV x v → s.heap.IsSliceOf sl vl vu .none → IsPart vl lo → IsPart vu hi →
    ∃ T id, typeLookup (.type T) "__getitem__" = pure (some (.builtin id)) ∧ s.TypeIs v T ∧ wpAny (model X.prog X.w) X.A (getItem v (.ref sl)) (EP X pins σ Q) X.xe s
structure IpW (X : Cx) (op : Operator) (x y : V) (H : Hp) (Q : VK) : Prop where
  run : ∀ pins s σ v u, Inv X pins σ H s → RelV x v → RelV y u → wpAny (model X.prog X.w) X.A (inplaceOp op v u) (EP X pins σ Q) X.xe s

variable {e a b c : Expr} {es : List Expr} {st : Stmt} {sts rest : List Stmt} {t : TE} {tt : TT} {ta : TA} {ts : TS} {σ : St} {H : Hp} {Q : VK} {D : Ends} {pos : Pos}
theorem pe_we : PE X e (ZE X e) := ⟨fun pins s σ H Q I h => h.run pins s I⟩
theorem pt_wt : PT X e (ZT X e) := ⟨fun pins s σ H Q I h => h.run pins s I⟩
theorem pw_ww : PW X e (ZW X e) := ⟨fun wh pins s σ H Q I h => h.run wh pins s I⟩
theorem pa_wa : PA X es (ZA X es) := ⟨fun pos pins s σ H Q I h => h.run pos pins s I⟩
theorem ps_ws : PS X st (fun D σ H => ZS X st D.nx D.rt D.bk D.ct σ H) := ⟨fun pins s σ H D I h => h.run pins s I⟩
theorem pss_wss : PSs X sts (fun D σ H => ZSs X sts D.nx D.rt D.bk D.ct σ H) := ⟨fun pins s σ H D I h => h.run pins s I⟩
theorem pg_wg : PG X e (ZG X e) := ⟨fun pins s σ H v u Q I r h => h.run pins s u I r⟩
theorem pgs_wgs : PGs X es (ZGs X es) := ⟨fun pins s σ H vs us Q I r h => h.run pins s us I r⟩
theorem pi_wi : PI X a b (ZI X a b) := ⟨fun pins s σ H R I h => h.run pins s I⟩
theorem un_w {f : Value → Sem Value} : UnR X f (UnW X f) := fun pins s σ H x v Q I rx h => h.run pins s σ v I rx
theorem call_w {f : Value} : CallR X f (CallW X f) := fun pins s σ H xs us Q I r h => h.run pins s σ us I r
theorem tru_w : TruR X (TruW X) := fun pins s σ H x v Q I r h => h.run pins s σ v I r
theorem mt_w {id : String} : MtR X id (MtW X id) := fun pins s σ H x xs v us Q I rx r h => h.run pins s σ v us I rx r
theorem set_w : PSet X (SetW X) := fun pins s σ H o i v ov iv u Q I ro ri rv h => h.run pins s σ ov iv u I ro ri rv
theorem sl_w : SlR X (SlW X) := fun pins s σ H x v vl vu lo hi sl Q I rx hs pl pu h => h.run pins s σ v vl vu sl I rx hs pl pu
theorem ip_w {op : Operator} : PIp X op (IpW X op) := fun pins s σ H x y v u Q I rx ry h => h.run pins s σ v u I rx ry
theorem PE.w (h : PE X e t) (q : t σ H Q) : ZE X e σ H Q := ⟨fun pins s I => h.run pins s σ H Q I q⟩
theorem PT.w (h : PT X e tt) {Q : Bool → Hp → Prop} (q : tt σ H Q) : ZT X e σ H Q := ⟨fun pins s I => h.run pins s σ H Q I q⟩
theorem PW.w (h : PW X e tt) {Q : Bool → Hp → Prop} (q : tt σ H Q) : ZW X e σ H Q := ⟨fun wh pins s I => h.run wh pins s σ H Q I q⟩
theorem PA.w (h : PA X es ta) {Q : List V → Hp → Prop} (q : ta σ H Q) : ZA X es σ H Q := ⟨fun pos pins s I => h.run pos pins s σ H Q I q⟩
variable {nx bk ct : NX} {rt : VK}
theorem PS.w (h : PS X st ts) (q : ts ⟨nx, rt, bk, ct⟩ σ H) : ZS X st nx rt bk ct σ H := ⟨fun pins s I => h.run pins s σ H _ I q⟩
theorem PSs.w (h : PSs X sts ts) (q : ts ⟨nx, rt, bk, ct⟩ σ H) : ZSs X sts nx rt bk ct σ H := ⟨fun pins s I => h.run pins s σ H _ I q⟩
theorem PG.w {g : TG} (h : PG X e g) {v : V} {Q : St → Hp → Prop} (q : g v σ H Q) : ZG X e v σ H Q := ⟨fun pins s u I r => h.run pins s σ H v u Q I r q⟩
theorem PGs.w {g : TGs} (h : PGs X es g) {vs : List V} {Q : St → Hp → Prop} (q : g vs σ H Q) : ZGs X es vs σ H Q := ⟨fun pins s us I r => h.run pins s σ H vs us Q I r q⟩
theorem PI.w {wi : TI} (h : PI X a b wi) {R : It → Hp → Prop} (q : wi σ H R) : ZI X a b σ H R := ⟨fun pins s I => h.run pins s σ H R I q⟩
theorem OpR.w {f : Value → Value → Sem Value} {r : R2} (h : OpR X f r) {x y : V} (q : r x y H Q) : OpW X σ f x y H Q := ⟨fun pins s v u I rx ry => h pins s σ H x y v u Q I rx ry q⟩
theorem UnR.w {f : Value → Sem Value} {r : V → Hp → VK → Prop} (h : UnR X f r) {x : V} (q : r x H Q) : UnW X f x H Q := ⟨fun pins s σ v I rx => h pins s σ H x v Q I rx q⟩
theorem CallR.w {f : Value} {r : List V → Hp → VK → Prop} (h : CallR X f r) {xs : List V} (q : r xs H Q) : CallW X f xs H Q := ⟨fun pins s σ us I rx => h pins s σ H xs us Q I rx q⟩
theorem MtR.w {id : String} {r : V → List V → Hp → VK → Prop} (h : MtR X id r) {x : V} {xs : List V} (q : r x xs H Q) : MtW X id x xs H Q := ⟨fun pins s σ v us I rx rs => h pins s σ H x xs v us Q I rx rs q⟩
theorem IxR.w {r : R2} (h : IxR X r) {x y : V} (q : r x y H Q) : IxW X σ x y H Q := ⟨fun value slice pins s v u I rx ry e => h value slice pins s σ H x y v u Q I rx ry q e⟩
theorem PSet.w {r : TSet} (h : PSet X r) {o i v : V} {Q : Hp → Prop} (q : r o i v H Q) : SetW X o i v H Q := ⟨fun pins s σ ov iv u I ro ri rv => h pins s σ H o i v ov iv u Q I ro ri rv q⟩
theorem SlR.w {r : V → Option Int → Option Int → Hp → VK → Prop} (h : SlR X r) {x : V} {lo hi : Option Int} (q : r x lo hi H Q) : SlW X x lo hi H Q := ⟨fun pins s σ v vl vu sl I rx hs pl pu => h pins s σ H x v vl vu lo hi sl Q I rx hs pl pu q⟩
theorem PIp.w {op : Operator} {r : TIp} (h : PIp X op r) {x y : V} (q : r x y H Q) : IpW X op x y H Q := ⟨fun pins s σ v u I rx ry => h pins s σ H x y v u Q I rx ry q⟩

/-! ### expressions -/
theorem ze_var (i : Nat) {x : Str} {v : V} (hN : X.N[i]? = some x) (hv : σ[i]? = some (some v)) (q : Q v H) (vi : Vis X.env.scope x := by first | exact Or.inl rfl | exact Or.inr (Or.inl rfl) | exact Or.inr (Or.inr rfl))
    (hd : (x == ("__debug__" : Str)) = false := by decide) (hcd : (x == ("__classdict__" : Str)) = false := by decide) : ZE X (.Name x pos) σ H Q := (pe_var hN vi hd hcd).w ⟨v, hv, q⟩
theorem ze_int {i : Int} {j : Nat} (q : Q (.int i) H) : ZE X (.Constant (.int i) j pos) σ H Q := pe_int.w q
theorem ze_bl {i : Bool} {j : Nat} (q : Q (.bl i) H) : ZE X (.Constant (.bool i) j pos) σ H Q := pe_bl.w q
theorem ze_str {i : Str} {j : Nat} (q : Q (.str i) H) : ZE X (.Constant (.str i) j pos) σ H Q := pe_str.w q
theorem ze_non {j : Nat} (q : Q .non H) : ZE X (.Constant .none j pos) σ H Q := pe_non.w q
theorem ze_glob {x : Str} {v : V} {u : Value} (hm : X.mg x = some u) (r : RelV v u) (q : Q v H) (hg : Gl X x := by rfl) (hd : (x == ("__debug__" : Str)) = false := by decide) : ZE X (.Name x pos) σ H Q := (pe_glob hg hm r hd).w q
theorem ze_bltn {x : Str} {v : V} {u : Value} (hm : X.mg x = none) (hv : bootBuiltins x = some u) (r : RelV v u) (q : Q v H) (hg : Gl X x := by rfl) (hn : x ≠ "__name__" := by decide) (hd : (x == ("__debug__" : Str)) = false := by decide) : ZE X (.Name x pos) σ H Q := (pe_bltn hg hm hv r hn hd).w q
theorem ze_op {op : Operator} (h : ZE X a σ H fun x H1 => ZE X b σ H1 fun y H2 => OpW X σ (binaryOp op) x y H2 Q) : ZE X (.BinOp a op b pos) σ H Q := ⟨fun pins s I => wpAny_BinOp (binT pe_we pe_we I h fun v u s2 x y H2 I2 rx ry q => q.run pins s2 v u I2 rx ry)⟩
theorem ze_un {op : UnaryOp} (h : ZE X a σ H fun x H1 => UnW X (unaryOp op) x H1 Q) : ZE X (.UnaryOp op a pos) σ H Q := (pe_un un_w pe_we).w h
theorem ze_notV (h : ZE X a σ H fun x H1 => ∃ c, x = .bl c ∧ Q (.bl (!c)) H1) : ZE X (.UnaryOp .Not a pos) σ H Q := (pe_not pe_we).w h
theorem ze_cmp {op : CmpOp} (hm : behindInMarks op b = false) (h : ZE X a σ H fun x H1 => ZE X b σ H1 fun y H2 => OpW X σ (compareOp op) x y H2 Q) : ZE X (.Compare a [op] [b] pos) σ H Q := ⟨fun pins s I => wpAny_Compare1 (binT pe_we pe_we I h fun v u s2 x y H2 I2 rx ry q => q.run pins s2 v u I2 rx ry) hm⟩
theorem ze_chain {op op' : CmpOp} (hm : lastMarks [op, op'] [b, c] = false) (h : ZE X a σ H fun x H1 => ZE X b σ H1 fun y H2 => OpW X σ (compareOp op) x y H2 fun z H3 => ∃ k, z = .bl k ∧ (if k = true then ZE X c σ H3 fun w' H4 => OpW X σ (compareOp op') y w' H4 Q else Q (.bl false) H3)) : ZE X (.Compare a [op, op'] [b, c] pos) σ H Q := by
  refine ⟨fun pins s I => ?_⟩
  refine Compare_chain (thn (h.run pins s I) fun v s1 ⟨x, H1, I1, r1, q1⟩ => chain_link (thn (q1.run pins s1 I1) fun u s2 ⟨y, H2, I2, r2, q2⟩ => thn (q2.run pins s2 v u I2 r1 r2) fun d s3 ⟨z, H3, I3, r3, k, e, q3⟩ => ?_)) hm
  subst e
  cases r3
  refine wpAny_truthy_bool ?_
  cases k with
  | true => exact ite_tt (chain_last (thn (q3.run pins s3 I3) fun w' s4 ⟨z', H4, I4, r4, q4⟩ => q4.run pins s4 u w' I4 r2 r4))
  | false => exact ite_ff ⟨.bl false, H3, I3, rfl, q3⟩
theorem ze_and1 {op : BoolOp} (h : ZE X a σ H Q) : ZE X (.BoolOp op [a] pos) σ H Q := (pe_one pe_we).w h
theorem ze_and (h : ZE X a σ H fun x H1 => ∃ c, x = .bl c ∧ if c = true then ZE X (.BoolOp .And (b :: es) pos) σ H1 Q else Q (.bl false) H1) : ZE X (.BoolOp .And (a :: b :: es) pos) σ H Q := (pe_and pe_we pe_we).w h
theorem ze_or (h : ZE X a σ H fun x H1 => ∃ c, x = .bl c ∧ if c = true then Q (.bl true) H1 else ZE X (.BoolOp .Or (b :: es) pos) σ H1 Q) : ZE X (.BoolOp .Or (a :: b :: es) pos) σ H Q := (pe_or pe_we pe_we).w h
theorem ze_if (h : ZT X c σ H fun k H1 => if k = true then ZE X a σ H1 Q else ZE X b σ H1 Q) : ZE X (.IfExp c a b pos) σ H Q := (pe_ifExp pt_wt pe_we pe_we).w h
theorem ze_tup {k : Nat} (h : ZA X es σ H fun xs H1 => xs.length ≤ sizeLine ∧ ∀ p, H1 p = none → Q (.ref p) (upd H1 p (.tup xs))) : ZE X (.Tuple es k pos) σ H Q := (pe_tup pa_wa).w h
theorem ze_lst (h : ZA X es σ H fun xs H1 => xs.length ≤ sizeLine ∧ ∀ p, H1 p = none → Q (.ref p) (upd H1 p (.lst xs))) : ZE X (.List es pos) σ H Q := (pe_lst pa_wa).w h
theorem za_nil {Q : List V → Hp → Prop} (q : Q [] H) : ZA X [] σ H Q := pa_nil.w q
theorem za_cons {Q : List V → Hp → Prop} (h : ZE X e σ H fun x H1 => ZA X es σ H1 fun xs H2 => Q (x :: xs) H2) (hs : starEach (e :: es) X.env = (false, eval e X.env) :: starEach es X.env := by rfl) : ZA X (e :: es) σ H Q := (pa_cons pe_we pa_wa hs).w h
theorem ze_sub (h : ZE X a σ H fun x H1 => ZE X b σ H1 fun y H2 => IxW X σ x y H2 Q) (hs : PlainIx b := by exact fun _ _ => rfl) : ZE X (.Subscript a b pos) σ H Q := ⟨fun pins s I => Subscript_ (binT pe_we pe_we I h fun v u s2 x y H2 I2 rx ry q => q.run a b pins s2 v u I2 rx ry (hs _ _))⟩
def ZO (X : Cx) (e : Option Expr) : TO := match e with
  | none => tNoPart
  | some e => tPart (fun σ H Q => ZE X e σ H Q)
theorem po_wo : ∀ {e : Option Expr}, PO X e (ZO X e)
  | none => po_none
  | some _ => po_some pe_we
theorem ze_slice {lo hi : Option Expr} {p2 : Pos} (h : ZE X a σ H fun x H1 => ZO X lo σ H1 fun l H2 => ZO X hi σ H2 fun u H3 => SlW X x l u H3 Q) : ZE X (.Subscript a (.Slice lo hi none p2) pos) σ H Q := (pe_slice sl_w pe_we po_wo po_wo).w h
theorem zo_none {Q : Option Int → Hp → Prop} (q : Q none H) : ZO X none σ H Q := q
theorem zo_some {Q : Option Int → Hp → Prop} (h : ZE X e σ H fun x H1 => ∃ i, x = .int i ∧ Q (some i) H1) : ZO X (some e) σ H Q := h
theorem ze_attr {f : Str} (h : ZE X a σ H fun x H1 => AtW X f x H1 Q) (hb : attributeBase a f X.env (eval a X.env) = eval a X.env := by rfl) : ZE X (.Attribute a f pos) σ H Q := ⟨fun pins s I =>
  attr_of hb (thn (h.run pins s I) fun u s1 ⟨x, H1, I1, rx, q⟩ => q.run pins s1 σ u I1 rx)⟩
/-- a built-in function's call -/
theorem ze_callB {x : Str} {id : String} {p : Pos} (hm : X.mg x = none) (hv : bootBuiltins x = some (.builtin id)) (h : ZA X (e :: es) σ H fun vs H1 => CallW X (.builtin id) vs H1 Q) (hg : Gl X x := by rfl) (hn : x ≠ "__name__" := by decide) (hdb : (x == ("__debug__" : Str)) = false := by decide)
    (he : starEach (e :: es) X.env = (false, eval e X.env) :: starEach es X.env := by rfl) (hpl : (backTo pos (starEach es X.env)).any (·.1) = false := by rfl) : ZE X (.Call (.Name x p) (e :: es) [] pos) σ H Q := (pe_callB call_w hg hm hv pa_wa hn hdb he hpl).w h
theorem ze_callT {x : Str} {T : String} {p : Pos} (hm : X.mg x = none) (hv : bootBuiltins x = some (.type T)) (h : ZA X (e :: es) σ H fun vs H1 => CallW X (.type T) vs H1 Q) (hg : Gl X x := by rfl) (hn : x ≠ "__name__" := by decide) (hdb : (x == ("__debug__" : Str)) = false := by decide)
    (he : starEach (e :: es) X.env = (false, eval e X.env) :: starEach es X.env := by rfl) (hpl : (backTo pos (starEach es X.env)).any (·.1) = false := by rfl) : ZE X (.Call (.Name x p) (e :: es) [] pos) σ H Q := (pe_callTy call_w hg hm hv pa_wa hn hdb he hpl).w h
/-- a built-in type's method -/
theorem ze_bm0 {T id : String} {name : Str} {apos : Pos} (pl : PlainAttrs T) (slot : Slot T name id) (hty : typeOf (.builtin id) = pure (.type "method_descriptor")) (h : ZE X a σ H fun x H1 => tyV X.K T x H1 ∧ MtW X id x [] H1 Q)
    (hbase : attributeBase a name X.env (eval a X.env) = eval a X.env := by rfl) (hline : (apos.endLine == pos.line) = true := by rfl) : ZE X (.Call (.Attribute a name apos) [] [] pos) σ H Q := (pe_bm0 pl slot hty mt_w pe_we hbase hline).w h
theorem ze_bm {T id : String} {name : Str} {apos : Pos} (pl : PlainAttrs T) (slot : Slot T name id) (hty : typeOf (.builtin id) = pure (.type "method_descriptor")) (h : ZE X a σ H fun x H1 => tyV X.K T x H1 ∧ ZA X (e :: es) σ H1 fun xs H2 => MtW X id x xs H2 Q)
    (hbase : attributeBase a name X.env (eval a X.env) = eval a X.env := by rfl)
    (hfew : ((backTo pos (starEach (e :: es) X.env)).all (fun x => !x.1) && (backToKw pos (keywordEach [] X.env)).all (fun x => x.1.isSome)
      && decide ((e :: es).length + ([] : List Keyword).length + (if ([] : List Keyword).isEmpty then 0 else 1) < 30)) = true := by rfl)
    (hline : (apos.endLine == pos.line) = true := by rfl) (hs : starEach (e :: es) X.env = (false, eval e X.env) :: starEach es X.env := by rfl) (hplain : (backTo pos (starEach es X.env)).any (·.1) = false := by rfl) :
    ZE X (.Call (.Attribute a name apos) (e :: es) [] pos) σ H Q := (pe_bm pl slot hty mt_w pe_we pa_wa hbase hfew hline hs hplain).w h
end

/-! ### calls of the text's own defs -/
/-- the weakest wish of an exception -/
def XW (X : Cx) : WX := fun cls d σ H => ∀ u s' (a : Addr) (B : Heap) (sI : Shared) (pins : List (Addr × Obj)),
    u = .ref a → Inv X pins σ H sI → (∀ b o, sI.heap.get? b = some o → b ∉ frs X.stack → B.get? b = some o) → sI.heap.UpToSlots s'.heap → Sky B X.stack a (L2N.Zn cls d) X.env.locals s'.heap → H a = none → s'.os = sI.os → AllBare s'.gens → X.xe u s'
theorem takes_xw {X : Cx} : L2N.Takes X (XW X) := fun u s' ⟨a, B, sI, pins, σ, H, cls, d, e1, I, h2, h3, h4, h5, h6, h7, w⟩ => w u s' a B sI pins e1 I h2 h3 h4 h5 h6 h7
theorem xw_of {X : Cx} {W : WX} (tk : L2N.Takes X W) {cls : Value} {d : Option Addr} {σ : St} {H : Hp} (h : W cls d σ H) : XW X cls d σ H := fun u s' a B sI pins e1 I h2 h3 h4 h5 h6 h7 => tk u s' ⟨a, B, sI, pins, σ, H, cls, d, e1, I, h2, h3, h4, h5, h6, h7, h⟩
/-- a def as a name of the module, with its promise (the arguments behind the given ones by their defaults) -/
structure Cal (P : Program) (w : World) (K : PySem.W.Frag) (mg : Str → Option Value) (base : Heap) (k : Nat) (x : Str) (sp : Sp) : Prop where
  ex : ∃ (f : Addr) (fd : FuncData) (ps : List Str) (dvs : List V) (ds : List Value) (sp0 : Sp), FnOk P w K mg base (L2N.CX P w) k f fd ps sp0 ∧ mg x = some (.ref f) ∧ PySem.W.keepIn K (.ref f) = true ∧ Binds K fd ps ds ∧ Vals dvs ds ∧ ∀ vs H Q E, sp vs H Q E → sp0 (vs ++ dvs) H Q E
section
variable {X : Cx} {e a : Expr} {es : List Expr} {σ : St} {H : Hp} {Q : VK} {p pos apos : Pos}
theorem zrun {k : Nat} {f : Addr} {fd : FuncData} {ps : List Str} {sp : Sp} {ds : List Value} {dvs : List V} {pins : List (Addr × Obj)} {s : Shared} {us : List Value} {vs : List V} (F : FnOk X.prog X.w X.K X.mg X.base (L2N.CX X.prog X.w) k f fd ps sp) (hr : Room k X.A) (hb : Binds X.K fd ps ds) (hd : Vals dvs ds)
    (I : Inv X pins σ H s) (r : Vals vs us) (h : sp (vs ++ dvs) H Q fun cls d H' => XW X cls d σ H') : wpAny (model X.prog X.w) X.A (call (.ref f) us) (EP X pins σ Q) X.xe s := by
  have rr : Vals (vs ++ dvs) (us ++ ds) := r.append hd
  have hl : (us ++ ds).length = ps.length := by rw [← rr.length]; exact F.len _ _ _ _ h
  refine wpAny_call (codeAny_mono (F.run X.A X.stack s H ⟨us, []⟩ (us ++ ds) (vs ++ dvs) Q _ hr I.env0 (hb s us I.kIn hl) rr h) fun r s' hq => ?_)
  cases r with
  | error e => exact takes_xw e s' (L2N.XE.of_call I (fun cls d H' w => w) hq)
  | ok fl =>
    cases fl with
    | ret u => exact I.after hq
    | next => exact False.elim hq
    | brk => exact False.elim hq
    | cont => exact False.elim hq
theorem ze_call {x : Str} {k j : Nat} {sp : Sp} (c : Cal X.prog X.w X.K X.mg X.base k x sp) (hr : Room j X.A) (hk : k ≤ j) (h : ZA X (e :: es) σ H fun vs H1 => sp vs H1 Q fun cls d H' => XW X cls d σ H') (hg : Gl X x := by rfl)
    (hdb : (x == ("__debug__" : Str)) = false := by decide) (he : starEach (e :: es) X.env = (false, eval e X.env) :: starEach es X.env := by rfl) (hpl : (backTo pos (starEach es X.env)).any (·.1) = false := by rfl) : ZE X (.Call (.Name x p) (e :: es) [] pos) σ H Q := by
  obtain ⟨f, fd, ps, dvs, ds, sp0, F, gm, kp, hb, hd, im⟩ := c.ex
  refine ⟨fun pins s I => ?_⟩
  refine wpAny_Call_Name_kw (ld_glob I hg gm ?_ hdb)
  refine PySem.W.callWith_K (h₀ := X.base) I.ok.mod.kin kp (thn (h.run pos pins s I) fun us s1 ⟨vs, H1, I1, r, q⟩ => ⟨I1.kIn, ?_⟩) he hpl
  exact zrun F (hr.mono hk) hb hd I1 r (im _ _ _ _ q)
theorem ze_call0 {x : Str} {k j : Nat} {sp : Sp} (c : Cal X.prog X.w X.K X.mg X.base k x sp) (hr : Room j X.A) (hk : k ≤ j) (h : sp [] H Q fun cls d H' => XW X cls d σ H') (hg : Gl X x := by rfl)
    (hdb : (x == ("__debug__" : Str)) = false := by decide) : ZE X (.Call (.Name x p) [] [] pos) σ H Q := by
  obtain ⟨f, fd, ps, dvs, ds, sp0, F, gm, kp, hb, hd, im⟩ := c.ex
  refine ⟨fun pins s I => ?_⟩
  refine wpAny_Call_Name_kw (ld_glob I hg gm ?_ hdb)
  exact PySem.W.callWith_K0 I.kIn kp (zrun (us := []) F (hr.mono hk) hb hd I .nil (im _ _ _ _ h))
/-- a method of an own class, with its promise -/
structure CalM (P : Program) (w : World) (K : PySem.W.Frag) (mg : Str → Option Value) (base : Heap) (k : Nat) (C : Addr) (m : Str) (sp : Sp) : Prop where
  ex : ∃ (f : Addr) (fd : FuncData) (ps : List Str) (dvs : List V) (ds : List Value) (sp0 : Sp), FnOk P w K mg base (L2N.CX P w) k f fd ps sp0 ∧ Meth K C m f ∧ Binds K fd ps ds ∧ Vals dvs ds ∧ ∀ vs H Q E, sp vs H Q E → sp0 (vs ++ dvs) H Q E
theorem ze_meth {pl : Sem Bool} {m : Str} {j : Nat} (hr : Room j X.A) (h : ZE X a σ H fun x H1 => ∃ (p C dx : Addr) (fs : List (Str × V)) (k : Nat) (sp : Sp), x = .ref p ∧ H1 p = some (.ins C dx fs) ∧ Cls X.K C ∧ CalM X.prog X.w X.K X.mg X.base k C m sp ∧ k ≤ j ∧ fs.lookup m = none ∧
      ZA X (e :: es) σ H1 fun vs H2 => sp (x :: vs) H2 Q fun cls d H' => XW X cls d σ H')
    (hst : starEach (e :: es) X.env = (false, eval e X.env) :: starEach es X.env := by rfl) (hpl : (backTo pos (starEach es X.env)).any (·.1) = false := by rfl)
    (ht : eval (.Call (.Attribute a m apos) (e :: es) [] pos) X.env = (do
      let ov ← eval a X.env
      standAt apos.atName
      let (f, first) ← holding [ov] (getMethod ov m pl)
      callWith pos f first (backTo pos (starEach (e :: es) X.env)) (backToKw pos (keywordEach [] X.env))) := by rfl) : ZE X (.Call (.Attribute a m apos) (e :: es) [] pos) σ H Q := by
  refine ⟨fun pins s I => ?_⟩
  refine PySem.W.methodCall_KW (pl := pl) (thn (h.run pins s I) fun u s1 ⟨x, H1, I1, rx, p, C, dx, fs, k, sp, ex, ea, c, cm, hk, l, q⟩ => ?_) ht
  subst ex
  obtain rfl : u = Value.ref p := rx
  obtain ⟨f, fd, ps, dvs, ds, sp0, F, hm, hb, hd, im⟩ := cm.ex
  refine getmeth_ok I1 ea c hm l ?_
  refine PySem.W.callWith_K (first := [.ref p]) (h₀ := X.base) I.ok.mod.kin hm.kp (thn (q.run pos pins s1 I1) fun us s2 ⟨vs, H2, I2, r, q2⟩ => ⟨I2.kIn, ?_⟩) hst hpl
  exact zrun (us := .ref p :: us) (vs := .ref p :: vs) F (hr.mono hk) hb hd I2 (.cons rfl r) (im _ _ _ _ q2)
theorem ze_meth0 {pl : Sem Bool} {m : Str} {j : Nat} (hr : Room j X.A) (h : ZE X a σ H fun x H1 => ∃ (p C dx : Addr) (fs : List (Str × V)) (k : Nat) (sp : Sp), x = .ref p ∧ H1 p = some (.ins C dx fs) ∧ Cls X.K C ∧ CalM X.prog X.w X.K X.mg X.base k C m sp ∧ k ≤ j ∧ fs.lookup m = none ∧
      sp [x] H1 Q fun cls d H' => XW X cls d σ H')
    (ht : eval (.Call (.Attribute a m apos) [] [] pos) X.env = (do
      let ov ← eval a X.env
      standAt apos.atName
      let (f, first) ← holding [ov] (getMethod ov m pl)
      callWith pos f first (backTo pos (starEach [] X.env)) (backToKw pos (keywordEach [] X.env))) := by rfl) : ZE X (.Call (.Attribute a m apos) [] [] pos) σ H Q := by
  refine ⟨fun pins s I => ?_⟩
  refine PySem.W.methodCall_KW (pl := pl) (thn (h.run pins s I) fun u s1 ⟨x, H1, I1, rx, p, C, dx, fs, k, sp, ex, ea, c, cm, hk, l, q⟩ => ?_) ht
  subst ex
  obtain rfl : u = Value.ref p := rx
  obtain ⟨f, fd, ps, dvs, ds, sp0, F, hm, hb, hd, im⟩ := cm.ex
  refine getmeth_ok I1 ea c hm l ?_
  refine PySem.W.callWith_K0 (first := [.ref p]) I1.kIn hm.kp ?_
  exact zrun (us := [.ref p]) (vs := [.ref p]) F (hr.mono hk) hb hd I1 (.cons rfl .nil) (im _ _ _ _ q)
end

/-! ### tests -/
section
variable {X : Cx} {e a b c : Expr} {es : List Expr} {st : Stmt} {sts rest : List Stmt} {σ : St} {H : Hp} {nx bk ct : NX} {rt : VK} {pos : Pos} {Q : Bool → Hp → Prop}
theorem zt_cmp {op : CmpOp} (hm : behindInMarks op b = false) (h : ZE X a σ H fun x H1 => ZE X b σ H1 fun y H2 => OpW X σ (compareOp op) x y H2 fun z H3 => ∃ k, z = .bl k ∧ Q k H3) : ZT X (.Compare a [op] [b] pos) σ H Q := by
  refine ⟨fun pins s I => ?_⟩
  refine wpAny_isTrue_Compare1 (thn (h.run pins s I) fun v s1 ⟨x, H1, I1, r1, q1⟩ => thn (q1.run pins s1 I1) fun u s2 ⟨y, H2, I2, r2, q2⟩ => thn (q2.run pins s2 v u I2 r1 r2) fun c s3 ⟨z, H3, I3, r3, k, e, q3⟩ => ?_) hm
  subst e
  cases r3
  exact wpAny_truthy_bool ⟨H3, I3, q3⟩
theorem zt_chain {op op' : CmpOp} (hm : lastMarks [op, op'] [b, c] = false) (h : ZE X a σ H fun x H1 => ZE X b σ H1 fun y H2 => OpW X σ (compareOp op) x y H2 fun z H3 => ∃ k, z = .bl k ∧ (if k = true then ZE X c σ H3 fun w' H4 => OpW X σ (compareOp op') y w' H4 (fun z H5 => ∃ k, z = .bl k ∧ Q k H5) else ∃ k, V.bl false = .bl k ∧ Q k H3)) : ZT X (.Compare a [op, op'] [b, c] pos) σ H Q := by
  refine ⟨fun pins s I => ?_⟩
  refine isTrue_chain (thn (h.run pins s I) fun v s1 ⟨x, H1, I1, r1, q1⟩ => test_link (thn (q1.run pins s1 I1) fun u s2 ⟨y, H2, I2, r2, q2⟩ => thn (q2.run pins s2 v u I2 r1 r2) fun d s3 ⟨z, H3, I3, r3, k, e, q3⟩ => ?_)) hm
  subst e
  cases r3
  refine wpAny_truthy_bool ?_
  cases k with
  | true =>
    refine ite_tt (test_last (thn (q3.run pins s3 I3) fun w' s4 ⟨z', H4, I4, r4, q4⟩ => thn (q4.run pins s4 u w' I4 r2 r4) fun d' s5 ⟨z2, H5, I5, r5, k2, e2, q5⟩ => ?_))
    subst e2
    cases r5
    exact wpAny_truthy_bool ⟨H5, I5, q5⟩
  | false =>
    obtain ⟨k', e', q'⟩ := q3
    cases e'
    exact ite_ff ⟨H3, I3, q'⟩
theorem zt_val (h : ZE X e σ H fun x H1 => ∃ k, x = .bl k ∧ Q k H1) (he : ∀ whole, isTrue e X.env whole = (do let v ← whole; standAt e.pos; holding [v] (truthy v)) := by intro _; rfl) : ZT X e σ H Q := (pt_val pe_we he).w h
theorem zt_truth (h : ZE X e σ H fun x H1 => ∃ k, TruV X.K x H1 k ∧ Q k H1) (he : ∀ whole, isTrue e X.env whole = (do let v ← whole; standAt e.pos; holding [v] (truthy v)) := by intro _; rfl) : ZT X e σ H Q := (pt_truth pe_we he).w h
theorem zt_not (h : ZT X e σ H fun k H1 => Q (!k) H1) : ZT X (.UnaryOp .Not e pos) σ H Q := (pt_not pt_wt).w h
theorem zt_w (h : ZW X e σ H Q) : ZT X e σ H Q := pw_ww.pt.w h
theorem zw_and1 (h : ZT X a σ H Q) : ZW X (.BoolOp .And [a] pos) σ H Q := (pw_and1 pt_wt).w h
theorem zw_or1 (h : ZT X a σ H Q) : ZW X (.BoolOp .Or [a] pos) σ H Q := (pw_or1 pt_wt).w h
theorem zw_and (h : ZT X a σ H fun k H1 => if k = true then ZW X (.BoolOp .And (b :: es) pos) σ H1 Q else Q false H1) : ZW X (.BoolOp .And (a :: b :: es) pos) σ H Q := (pw_and pt_wt pw_ww).w h
theorem zw_or (h : ZT X a σ H fun k H1 => if k = true then Q true H1 else ZW X (.BoolOp .Or (b :: es) pos) σ H1 Q) : ZW X (.BoolOp .Or (a :: b :: es) pos) σ H Q := (pw_or pt_wt pw_ww).w h
theorem zt_and (h : ZT X a σ H fun k H1 => if k = true then ZW X (.BoolOp .And (b :: es) pos) σ H1 Q else Q false H1) : ZT X (.BoolOp .And (a :: b :: es) pos) σ H Q := zt_w (zw_and h)
theorem zt_or (h : ZT X a σ H fun k H1 => if k = true then Q true H1 else ZW X (.BoolOp .Or (b :: es) pos) σ H1 Q) : ZT X (.BoolOp .Or (a :: b :: es) pos) σ H Q := zt_w (zw_or h)

/-! ### statements -/
theorem zss_nil (q : nx σ H) : ZSs X [] nx rt bk ct σ H := pss_nil.w q
theorem zss_cons (h : ZS X st (fun σ' H' => ZSs X rest nx rt bk ct σ' H') rt bk ct σ H) : ZSs X (st :: rest) nx rt bk ct σ H := (pss_cons ps_ws pss_wss).w h
theorem zss_one (h : ZS X st nx rt bk ct σ H) : ZSs X [st] nx rt bk ct σ H := (pss_one ps_ws).w h
theorem zs_pass (q : nx σ H) : ZS X (.Pass pos) nx rt bk ct σ H := ps_pass.w q
theorem zs_break (q : bk σ H) : ZS X (.Break pos) nx rt bk ct σ H := ps_break.w q
theorem zs_continue (q : ct σ H) : ZS X (.Continue pos) nx rt bk ct σ H := ps_continue.w q
theorem zs_expr (h : ZE X e σ H fun _ H1 => nx σ H1) (hs : swapsWith e none pos.line X.env = pure false := by rfl) : ZS X (.Expr e pos) nx rt bk ct σ H := (ps_expr pe_we hs).w h
theorem zs_ret (h : ZE X e σ H rt) : ZS X (.Return (some e) pos) nx rt bk ct σ H := (ps_ret pe_we).w h
theorem zs_retN (q : rt .non H) : ZS X (.Return none pos) nx rt bk ct σ H := ps_retN.w q
theorem zs_if (h : ZT X c σ H fun k H1 => if k = true then ZSs X sts nx rt bk ct σ H1 else ZSs X rest nx rt bk ct σ H1) : ZS X (.If c sts rest pos) nx rt bk ct σ H := (ps_if pt_wt pss_wss pss_wss).w h
theorem zs_asg (h : ZE X e σ H fun x H1 => ZG X a x σ H1 nx) (hs : swapsWithSole [a] e pos.line X.env = pure false := by rfl) (hw : swappedStores [a] e X.env = pure none := by rfl)
    (h1 : (assignEach [a] X.env).map (·.2) = [assign a X.env] := by rfl) : ZS X (.Assign [a] e pos) nx rt bk ct σ H := (ps_asg pe_we pg_wg hs hw h1).w h
theorem zs_set (i : Nat) {x : Str} {pos' : Pos} (hN : X.N.Nodup) (hi : X.N[i]? = some x) (h : ZE X e σ H fun v H1 => nx (σ.set i (some v)) H1) (hx : Loc X.env.scope x := by first | exact Or.inl rfl | exact Or.inr rfl)
    (hs : swapsWith e (some (.Name x pos')) pos.line X.env = pure false := by rfl) (hf : X.fn x = true ∨ X.env.scope.names.lookup x = some .local := by first | exact .inl rfl | exact .inr rfl | assumption) : ZS X (.Assign [.Name x pos'] e pos) nx rt bk ct σ H := (ps_set hN hi hx pe_we hs hf).w h
theorem zs_attr {f : Str} {pos' : Pos} (h : ZE X e σ H fun y H1 => ZE X a σ H1 fun x H2 => ∃ p C dx fs, x = .ref p ∧ H2 p = some (.ins C dx fs) ∧ Cls X.K C ∧ NoAttr X.K C f ∧ fs.length < 1000 ∧ nx σ (upd H2 p (.ins C dx (putF f y fs))))
    (hs : swapsWith e (some (.Attribute a f pos')) pos.line X.env = pure false := by rfl) : ZS X (.Assign [.Attribute a f pos'] e pos) nx rt bk ct σ H := (ps_fld pe_we pe_we hs).w h
theorem zg_name (i : Nat) {x : Str} {v : V} {Q : St → Hp → Prop} (hN : X.N.Nodup) (hi : X.N[i]? = some x) (q : Q (σ.set i (some v)) H) (hx : Loc X.env.scope x := by first | exact Or.inl rfl | exact Or.inr rfl)
    (hf : X.fn x = true ∨ X.env.scope.names.lookup x = some .local := by first | exact .inl rfl | exact .inr rfl | assumption) : ZG X (.Name x pos) v σ H Q := (pg_name hN hi hx hf).w q
theorem zg_tup {k : Nat} {n : Nat} {v : V} {Q : St → Hp → Prop} (hc : X.calm = true) (h : ∃ p xs, v = .ref p ∧ SqT X.K H p xs ∧ xs.length = n ∧ ZGs X es xs σ H Q)
    (hn : (assignEach es X.env).length = n := by rfl) (hst : (assignEach es X.env).findIdx? (·.1) = none := by rfl) : ZG X (.Tuple es k pos) v σ H Q := (pg_tup hc pgs_wgs hn hst).w h
theorem zgs_nil {Q : St → Hp → Prop} (q : Q σ H) : ZGs X [] [] σ H Q := pgs_nil.w ⟨rfl, q⟩
theorem zgs_cons {v : V} {vs : List V} {Q : St → Hp → Prop} (h : ZG X e v σ H fun σ' H' => ZGs X es vs σ' H' Q) (hs : (assignEach (e :: es) X.env).map (·.2) = assign e X.env :: (assignEach es X.env).map (·.2) := by rfl) : ZGs X (e :: es) (v :: vs) σ H Q := (pgs_cons pg_wg pgs_wgs hs).w ⟨v, vs, rfl, h⟩
theorem zg_sub {v : V} {Q : St → Hp → Prop} (h : ZE X a σ H fun o H1 => ZE X b σ H1 fun i H2 => SetW X o i v H2 fun H3 => Q σ H3)
    (ha : ∀ v, assign (.Subscript a b pos) X.env v = (do
      let ov ← holding [v] (eval a X.env)
      let iv ← holding [v, ov] (eval b X.env)
      standAt pos
      holding [v, ov, iv] (setItem ov iv v)
      release [v, ov, iv] []) := by intro _; rfl) : ZG X (.Subscript a b pos) v σ H Q := (pg_sub pe_we pe_we set_w ha).w h
theorem zs_par (i j : Nat) {x y : Str} {px py pt : Pos} {kt k2 pt2} (hc : X.calm = true) (hN : X.N.Nodup) (hi : X.N[i]? = some x) (hj : X.N[j]? = some y) (hij : i ≠ j) (h : ZA X [a, b] σ H fun vs H1 => ∃ v w, vs = [v, w] ∧ nx ((σ.set i (some v)).set j (some w)) H1)
    (hx : X.env.scope.names.lookup x = some .local := by rfl) (hy : X.env.scope.names.lookup y = some .local := by rfl)
    (hw : swappedStores [.Tuple [.Name x px, .Name y py] kt pt] (.Tuple [a, b] k2 pt2) X.env = pure (some [x, y]) := by rfl)
    (hs : swapsWithSole [.Tuple [.Name x px, .Name y py] kt pt] (.Tuple [a, b] k2 pt2) pos.line X.env = pure false := by rfl) :
    ZS X (.Assign [.Tuple [.Name x px, .Name y py] kt pt] (.Tuple [a, b] k2 pt2) pos) nx rt bk ct σ H := (ps_par hc hN hi hj hij hx hy pa_wa hw hs).w h
theorem zs_aug (i : Nat) {x : Str} {v : V} {op : Operator} {pos' : Pos} (hN : X.N.Nodup) (hi : X.N[i]? = some x) (hv : σ[i]? = some (some v)) (h : ZE X e σ H fun y H1 => IpW X op v y H1 fun z H2 => nx (σ.set i (some z)) H2) (hx : Loc X.env.scope x := by first | exact Or.inl rfl | exact Or.inr rfl)
    (hf : X.fn x = true ∨ X.env.scope.names.lookup x = some .local := by first | exact .inl rfl | exact .inr rfl | assumption) : ZS X (.AugAssign (.Name x pos') op e pos) nx rt bk ct σ H := (ps_aug hN hi hx pe_we ip_w hf).w ⟨v, hv, h⟩
theorem zs_while (hp : PassesOwn (model X.prog X.w) X.A X.env X.xe) (h : ∃ W : Nat → St → Hp → Prop, (∃ m, W m σ H) ∧ ∀ m σ H, W m σ H →
  ZT X c σ H fun b H1 => if b = true then ∃ N : St → Hp → Prop, (∀ σ' H', N σ' H' → ∃ m', m' < m ∧ W m' σ' H') ∧ ZSs X sts N rt nx N σ H1 else nx σ H1) : ZS X (.While c sts [] pos) nx rt bk ct σ H := (ps_while hp pt_wt pss_wss).w h
theorem zs_for (hp : PassesOwn (model X.prog X.w) X.A X.env X.xe) (hc : X.calm = true) (h : ZI X a b σ H fun J H1 => ∃ W : Nat → Nat → St → Hp → Prop, (∃ m, W 0 m σ H1) ∧ ∀ i m σ H, W i m σ H →
  (J.stop i H ∧ nx σ H) ∨ (J.go i H ∧ ∃ N : St → Hp → Prop, (∀ σ' H', N σ' H' → ∃ m', m' < m ∧ W (i + 1) m' σ' H') ∧ ∀ x H', J.yld i H x H' → ZG X a x σ H' fun σ2 H2 => ZSs X sts N rt nx N σ2 H2))
    (hs : ∀ x, foldedSetIterable b X.env x = pure x := by intro _; rfl) : ZS X (.For a b sts [] pos) nx rt bk ct σ H := (ps_for hp hc pi_wi pg_wg pss_wss hs).w h
theorem zi_list {R : It → Hp → Prop} (h : ZE X b σ H fun x H1 => ∃ p, x = .ref p ∧ (∃ xs, SqL X.K H1 p xs) ∧ R (Itl X.K p) H1) : ZI X a b σ H R := (pi_list pe_we).w h
theorem zi_tup {R : It → Hp → Prop} (h : ZE X b σ H fun x H1 => ∃ p, x = .ref p ∧ (∃ xs, SqT X.K H1 p xs) ∧ R (Itt X.K p) H1) : ZI X a b σ H R := (pi_tup pe_we).w h
theorem zi_range1 {R : It → Hp → Prop} {p : Pos} (hm : X.mg "range" = none) (h : ZA X [e] σ H fun vs H1 => ∃ j : Int, vs = [.int j] ∧ -(2 ^ 62) ≤ j ∧ j < 2 ^ 62 ∧ R (Itr 0 j.toNat) H1) (hg : Gl X "range" := by rfl) (hs : starEach [e] X.env = [(false, eval e X.env)] := by rfl) : ZI X a (.Call (.Name "range" p) [e] [] pos) σ H R :=
  (pi_range1 hg hm pa_wa hs).w h
theorem zi_range2 {R : It → Hp → Prop} {p : Pos} (hm : X.mg "range" = none) (h : ZA X [e, b] σ H fun vs H1 => ∃ i j : Int, vs = [.int i, .int j] ∧ (-(2 ^ 62) ≤ i ∧ i < 2 ^ 62 ∧ -(2 ^ 62) ≤ j ∧ j < 2 ^ 62) ∧ R (Itr i (j - i).toNat) H1) (hg : Gl X "range" := by rfl) (hs : starEach [e, b] X.env = [(false, eval e X.env), (false, eval b X.env)] := by rfl) (hs2 : starEach [b] X.env = [(false, eval b X.env)] := by rfl) : ZI X a (.Call (.Name "range" p) [e, b] [] pos) σ H R :=
  (pi_range2 hg hm pa_wa hs hs2).w h

/-! ### raise, try -/
theorem zs_raise {c : Expr} {x : Str} {C fI : Addr} {nms : List Str} {j : Nat} {p pos2 : Pos} (hc : X.calm = true) (T : PySem.LX.ExcT X.K C) (iC : PySem.W.findIn X.K (.ref C) "__init__" = some (some (.ref fI))) (tC : PySem.W.typeIn X.K (.ref fI) = some (.type "function"))
    (IR : PySem.LX.InitRuns X.prog X.K X.mg C fI nms) (gC : X.mg x = some (.ref C)) (hr : Room j X.A)
    (h : ZA X (e :: es) σ H fun vs H1 => vs.length = nms.length ∧ nms.length ≤ 10 ∧ ∀ d, H1 d = none → XW X (.ref C) (some d) σ (upd H1 d (.xd (nms.zip vs).reverse))) (hg : Gl X x := by rfl)
    (hdb : (x == ("__debug__" : Str)) = false := by decide) (he : starEach (e :: es) X.env = (false, eval e X.env) :: starEach es X.env := by rfl) (hpl : (backTo pos (starEach es X.env)).any (·.1) = false := by rfl) :
    ZS X (.Raise (some (.Call (.Name x p) (e :: es) [] pos)) none pos2) nx rt bk ct σ H := (L2N.ps_raise hc takes_xw (pmk_x T iC tC IR gC hr pa_wa hg hdb he hpl)).w h
theorem zs_try_as {x n : Str} {k : Value} {i : Nat} {body suite : List Stmt} {b₀ : Stmt} {np pos' : Pos} (hs : X.stack = X.env :: X.outer) (hf : X.env.frame = some X.env.locals) (hN : X.N.Nodup) (hi : X.N[i]? = some n) (hln : X.env.kindOf n = some .local) (hc : Names X x k)
    (h : ∀ (pn : List (Addr × Obj)) (xe : Value → Shared → Prop), L2N.Takes (X.tr pn xe) (wAs X.K k i (fun a cls d D σ H => ∀ (oe : Obj) (pn : List (Addr × Obj)), L2N.Zn cls d oe → (∃ vs, oe.data = .fields vs) → ZSs (X.suite a ((a, oe) :: pn)) (b₀ :: suite) D.nx D.rt D.bk D.ct σ H) (XW X) ⟨nx, rt, bk, ct⟩) →
      PassesOwn (model X.prog X.w) X.A X.env xe → ZSs (X.tr pn xe) body nx rt bk ct σ H) :
    ZS X (.Try body [.ExceptHandler (some (.Name x np)) (some n) (b₀ :: suite) pos'] [] [] pos) nx rt bk ct σ H :=
  (L2N.ps_try_as (tb := fun W D σ H => ∀ (pn : List (Addr × Obj)) (xe : Value → Shared → Prop), L2N.Takes (X.tr pn xe) W → PassesOwn (model X.prog X.w) X.A X.env xe → ZSs (X.tr pn xe) body D.nx D.rt D.bk D.ct σ H) hs hf hN hi hln hc takes_xw
    (fun W pn xe tk hp => ⟨fun pins s σ H D I h => (h pn xe tk hp).run pins s I⟩) (fun a oe cls d pn hz hf => ⟨fun pins s σ H D I h => (h oe pn hz hf).run pins s I⟩)).w h
end

/-! ### the entry of a def -/
section
variable {P : Program} {w : World} {K : PySem.W.Frag} {mg : Str → Option Value} {base : Heap}
/-- the context of a def's body -/
abbrev cxN (P : Program) (w : World) (K : PySem.W.Frag) (mg : Str → Option Value) (base : Heap) (N : List Str) (qual : Str) (scope : Scope) (f : Addr) (cd : Value) (A : Around) (outer : List Env) (s : Shared) (H : Hp) (E : XK) : Cx := cxOf (L2N.CX P w) P w K mg base N qual scope f cd A outer s H E
theorem Fun.okN {x qual : Str} {st : Stmt} {f : Addr} {fd : FuncData} {N ps : List Str} {k : Nat} {sp : Sp} (F : Fun K x qual st f fd) (S : FnScope N ps (defScope st)) (len : ∀ vs H Q E, sp vs H Q E → vs.length = ps.length)
    (hbody : ∀ (cdv : Value) (A : Around) (outer : List Env) (s : Shared) (H : Hp) (vs : List V) (Q : VK) (E : XK), Room k (A.deeper (envOfC qual (defScope st) s.heap.objs.size f cdv)) → sp vs H Q E →
      ZSs (cxN P w K mg base N qual (defScope st) f cdv A outer s H E) (defBody st) (fun _ H' => Q .non H') Q (fun _ _ => False) (fun _ _ => False) (start N vs) H) : FnOk P w K mg base (L2N.CX P w) (k + 1) f fd ps sp := by
  obtain ⟨oc, od, kV, doc, pm, an, cdv, ct, osl, rfl, lk, hcd⟩ := F.ex
  exact fn_of lk hcd S len fun A outer s H vs Q E hr hsp => ⟨_, pss_wss, hbody cdv A outer s H vs Q E hr hsp⟩
theorem FunD.okN {x qual : Str} {params : Arguments} {body : List Stmt} {scope : Scope} {dvs : List V} {kws : List (Str × V)} {f : Addr} {fd : FuncData} {N ps : List Str} {k : Nat} {sp : Sp} (F : FunD K x qual params body scope dvs kws f fd) (S : FnScope N ps scope) (len : ∀ vs H Q E, sp vs H Q E → vs.length = ps.length)
    (hbody : ∀ (cdv : Value) (A : Around) (outer : List Env) (s : Shared) (H : Hp) (vs : List V) (Q : VK) (E : XK), Room k (A.deeper (envOfC qual scope s.heap.objs.size f cdv)) → sp vs H Q E →
      ZSs (cxN P w K mg base N qual scope f cdv A outer s H E) body (fun _ H' => Q .non H') Q (fun _ _ => False) (fun _ _ => False) (start N vs) H) : FnOk P w K mg base (L2N.CX P w) (k + 1) f fd ps sp :=
  F.ok S len fun cdv A outer s H vs Q E hr hsp => ⟨_, pss_wss, hbody cdv A outer s H vs Q E hr hsp⟩
/-- at the level of a def an exception leaves it -/
theorem xw_def {N : List Str} {qual : Str} {scope : Scope} {f : Addr} {cd : Value} {A : Around} {outer : List Env} {s : Shared} {H0 : Hp} {E : XK} {cls : Value} {d : Option Addr} {σ : St} {H : Hp} (h : E cls d H) : XW (cxN P w K mg base N qual scope f cd A outer s H0 E) cls d σ H :=
  xw_of (L2N.takes_of rfl rfl rfl rfl) h
theorem pass_def {N : List Str} {qual : Str} {scope : Scope} {f : Addr} {cd : Value} {A : Around} {outer : List Env} {s : Shared} {H0 : Hp} {E : XK} : PassesOwn (model P w) (cxN P w K mg base N qual scope f cd A outer s H0 E).A (cxN P w K mg base N qual scope f cd A outer s H0 E).env (cxN P w K mg base N qual scope f cd A outer s H0 E).xe := passes_of rfl
end
end L2

/-! The values' rules. -/
namespace L2
open PySem PySem.Spec PyProof.Rows
section
variable {X : Cx} {H : Hp} {Q : VK} {i j : Int} {x y : V} {p q : Addr} {xs ys : List V} {z w : Str}
theorem ow_add (h : Q (.int (i + j)) H) : OpW X σ (binaryOp .Add) (.int i) (.int j) H Q := op_add.w ⟨i, j, rfl, rfl, h⟩
theorem ow_sub (h : Q (.int (i - j)) H) : OpW X σ (binaryOp .Sub) (.int i) (.int j) H Q := op_sub.w ⟨i, j, rfl, rfl, h⟩
theorem ow_mul (hc : CMul i j) (h : Q (.int (i * j)) H) : OpW X σ (binaryOp .Mult) (.int i) (.int j) H Q := op_mul.w ⟨i, j, rfl, rfl, hc, h⟩
theorem ow_mulW (hc : CMulW i j) (h : Q (.int (i * j)) H) : OpW X σ (binaryOp .Mult) (.int i) (.int j) H Q := op_mulW.w ⟨i, j, rfl, rfl, hc, h⟩
theorem ow_mod (hc : 0 < j) (h : Q (.int (i % j)) H) : OpW X σ (binaryOp .Mod) (.int i) (.int j) H Q := op_mod.w ⟨i, j, rfl, rfl, hc, h⟩
theorem ow_fdiv (hc : CDiv i j) (h : Q (.int (i / j)) H) : OpW X σ (binaryOp .FloorDiv) (.int i) (.int j) H Q := op_fdiv.w ⟨i, j, rfl, rfl, hc, h⟩
theorem ow_fdivW (hc : CDivW i j) (h : Q (.int (i / j)) H) : OpW X σ (binaryOp .FloorDiv) (.int i) (.int j) H Q := op_fdivW.w ⟨i, j, rfl, rfl, hc, h⟩
theorem ow_pow (hc : CPow i j) (h : Q (.int (i ^ j.toNat)) H) : OpW X σ (binaryOp .Pow) (.int i) (.int j) H Q := op_pow.w ⟨i, j, rfl, rfl, hc, h⟩
theorem ow_adds (hc : z.length + w.length ≤ sizeLine) (h : Q (.str (z ++ w)) H) : OpW X σ (binaryOp .Add) (.str z) (.str w) H Q := op_add_str.w ⟨z, w, rfl, rfl, hc, h⟩
theorem ow_addl (h1 : H p = some (.lst xs)) (h2 : H q = some (.lst ys)) (hc : xs.length + ys.length ≤ sizeLine) (h : ∀ r, H r = none → Q (.ref r) (upd H r (.lst (xs ++ ys)))) : OpW X σ (binaryOp .Add) (.ref p) (.ref q) H Q := op_cat.w ⟨p, q, xs, ys, rfl, rfl, h1, h2, hc, h⟩
theorem ow_repl (h1 : H p = some (.lst xs)) (hc : -(2 ^ 63) ≤ i ∧ i < 2 ^ 63 ∧ xs.length * i.toNat ≤ sizeLine) (h : ∀ r, H r = none → Q (.ref r) (upd H r (.lst (List.replicate i.toNat xs).flatten))) : OpW X σ (binaryOp .Mult) (.ref p) (.int i) H Q := op_rep.w ⟨p, i, xs, rfl, rfl, h1, hc.1, hc.2.1, hc.2.2, h⟩
theorem ow_lt (h : Q (.bl (decide (i < j))) H) : OpW X σ (compareOp .Lt) (.int i) (.int j) H Q := op_lt.w ⟨i, j, rfl, rfl, h⟩
theorem ow_le (h : Q (.bl (decide (i ≤ j))) H) : OpW X σ (compareOp .LtE) (.int i) (.int j) H Q := op_le.w ⟨i, j, rfl, rfl, h⟩
theorem ow_gt (h : Q (.bl (decide (j < i))) H) : OpW X σ (compareOp .Gt) (.int i) (.int j) H Q := op_gt.w ⟨i, j, rfl, rfl, h⟩
theorem ow_ge (h : Q (.bl (decide (j ≤ i))) H) : OpW X σ (compareOp .GtE) (.int i) (.int j) H Q := op_ge.w ⟨i, j, rfl, rfl, h⟩
theorem ow_eqi (h : Q (.bl (decide (i = j))) H) : OpW X σ (compareOp .Eq) (.int i) (.int j) H Q := op_eq.w ⟨rfl, by
  have e : decide (V.int i = V.int j) = decide (i = j) := by simp
  rw [e]; exact h⟩
theorem ow_nei (h : Q (.bl (!decide (i = j))) H) : OpW X σ (compareOp .NotEq) (.int i) (.int j) H Q := op_ne.w ⟨rfl, by
  have e : decide (V.int i = V.int j) = decide (i = j) := by simp
  rw [e]; exact h⟩
theorem ow_eqs (h : Q (.bl (decide (z = w))) H) : OpW X σ (compareOp .Eq) (.str z) (.str w) H Q := op_eq.w ⟨rfl, by
  have e : decide (V.str z = V.str w) = decide (z = w) := by simp
  rw [e]; exact h⟩
theorem ow_nes (h : Q (.bl (!decide (z = w))) H) : OpW X σ (compareOp .NotEq) (.str z) (.str w) H Q := op_ne.w ⟨rfl, by
  have e : decide (V.str z = V.str w) = decide (z = w) := by simp
  rw [e]; exact h⟩
theorem ow_eqb {a b : Bool} (h : Q (.bl (decide (a = b))) H) : OpW X σ (compareOp .Eq) (.bl a) (.bl b) H Q := op_eq.w ⟨rfl, by
  have e : decide (V.bl a = V.bl b) = decide (a = b) := by simp
  rw [e]; exact h⟩
theorem ow_neb {a b : Bool} (h : Q (.bl (!decide (a = b))) H) : OpW X σ (compareOp .NotEq) (.bl a) (.bl b) H Q := op_ne.w ⟨rfl, by
  have e : decide (V.bl a = V.bl b) = decide (a = b) := by simp
  rw [e]; exact h⟩
theorem ow_isN (h : Q (.bl (decide (x = .non))) H) : OpW X σ (compareOp .Is) x .non H Q := op_isN.w ⟨rfl, h⟩
theorem ow_notN (h : Q (.bl (!decide (x = .non))) H) : OpW X σ (compareOp .IsNot) x .non H Q := op_notN.w ⟨rfl, h⟩
theorem ow_in (hs : SqL X.K H p xs ∨ SqT X.K H p xs) (hx : flatV x = true) (ha : xs.all flatV = true) (h : Q (.bl (inV x xs)) H) : OpW X σ (compareOp .In) x (.ref p) H Q := op_in_seq.w ⟨p, xs, rfl, hs, hx, ha, h⟩
theorem ow_notin (hs : SqL X.K H p xs ∨ SqT X.K H p xs) (hx : flatV x = true) (ha : xs.all flatV = true) (h : Q (.bl (!inV x xs)) H) : OpW X σ (compareOp .NotIn) x (.ref p) H Q := op_notIn_seq.w ⟨p, xs, rfl, hs, hx, ha, h⟩
theorem uw_neg (h : Q (.int (-i)) H) : UnW X (unaryOp .USub) (.int i) H Q := un_neg.w ⟨i, rfl, h⟩
theorem cw_lenq (hs : SqL X.K H p xs ∨ SqT X.K H p xs) (h : Q (.int xs.length) H) : CallW X (.builtin "len") [.ref p] H Q := call_len_seq.w ⟨p, xs, rfl, hs, h⟩
theorem cw_lens (hs : z.length ≤ sizeLine) (h : Q (.int z.length) H) : CallW X (.builtin "len") [.str z] H Q := call_len_str.w ⟨z, rfl, hs, h⟩
theorem cw_abs (h : Q (.int (if i < 0 then -i else i)) H) : CallW X (.builtin "abs") [.int i] H Q := call_abs.w ⟨i, rfl, h⟩
theorem cw_int (h : Q (.int i) H) : CallW X (.type "int") [.int i] H Q := call_int1.w (.inl ⟨i, rfl, h⟩)
theorem cw_intb {b : Bool} (h : Q (.int (if b then 1 else 0)) H) : CallW X (.type "int") [.bl b] H Q := call_int1.w (.inr ⟨b, rfl, h⟩)
theorem cw_booli (h : Q (.bl (i != 0)) H) : CallW X (.type "bool") [.int i] H Q := call_bool1.w (.inl ⟨i, rfl, h⟩)
theorem cw_boolb {b : Bool} (h : Q (.bl b) H) : CallW X (.type "bool") [.bl b] H Q := call_bool1.w (.inr ⟨b, rfl, h⟩)
theorem cw_isi {c : V} {t u : Value} {b : Bool} (hc : ClsV c u) (hx : TyX X.K H x t) (hk : PySem.W.kitOne X.K t u = some b) (h : Q (.bl b) H) : CallW X (.builtin "isinstance") [x, c] H Q := call_isi.w ⟨x, c, t, u, b, rfl, hc, hx, hk, h⟩
theorem cw_tuple (hs : SqL X.K H p xs) (h : ∀ r, H r = none → Q (.ref r) (upd H r (.tup xs))) : CallW X (.type "tuple") [.ref p] H Q := call_tuple_of.w ⟨p, xs, rfl, .inl ⟨hs, h⟩⟩
theorem cw_list (hs : SqL X.K H p xs ∨ SqT X.K H p xs) (h : ∀ r, H r = none → Q (.ref r) (upd H r (.lst xs))) : CallW X (.type "list") [.ref p] H Q := call_list_of.w ⟨p, xs, rfl, hs, h⟩
theorem cw_max2 (hc : X.calm = true) (h : Q (.int (if j > i then j else i)) H) : CallW X (.builtin "max") [.int i, .int j] H Q := (call_max2 hc).w ⟨i, j, rfl, h⟩
theorem cw_min2 (hc : X.calm = true) (h : Q (.int (if j < i then j else i)) H) : CallW X (.builtin "min") [.int i, .int j] H Q := (call_min2 hc).w ⟨i, j, rfl, h⟩
theorem cw_divmod (hc : CDiv i j) (h : ∀ r, H r = none → Q (.ref r) (upd H r (.tup [.int (i / j), .int (i % j)]))) : CallW X (.builtin "divmod") [.int i, .int j] H Q := call_divmod.w ⟨i, j, rfl, hc, h⟩
theorem xw_lst {v : V} (hs : SqL X.K H p xs) (hi : atI xs i = some v) (h : Q v H) : IxW X σ (.ref p) (.int i) H Q := ix_list.w ⟨p, xs, i, v, rfl, rfl, hs, hi, h⟩
theorem xw_tup {v : V} (hs : SqT X.K H p xs) (hi : atI xs i = some v) (h : Q v H) : IxW X σ (.ref p) (.int i) H Q := ix_tup.w ⟨p, xs, i, v, rfl, rfl, hs, hi, h⟩
theorem xw_str {c : Nat} (hz : z.length ≤ sizeLine) (hi : atI z.cps.toList i = some c) (h : Q (.str ⟨#[c]⟩) H) : IxW X σ (.str z) (.int i) H Q := ix_str.w ⟨z, i, c, rfl, rfl, hz, hi, h⟩
theorem sw_lst {v : V} {n : Nat} {Q : Hp → Prop} (hs : H p = some (.lst xs)) (hi : ixN xs.length i = some n) (h : Q (upd H p (.lst (xs.set n v)))) : SetW X (.ref p) (.int i) v H Q := set_list.w ⟨p, xs, i, n, rfl, rfl, hs, hi, h⟩
theorem mw_append (hs : H p = some (.lst xs)) (hz : xs.length < sizeLine) (h : Q .non (upd H p (.lst (xs ++ [y])))) : MtW X "list.append" (.ref p) [y] H Q := (show MtR X "list.append" rAppend from mt_append).w ⟨p, xs, y, rfl, rfl, hs, hz, h⟩
theorem aw_fld {C dx : Addr} {fs : List (Str × V)} {f : Str} {v : V} (e : H p = some (.ins C dx fs)) (c : Cls X.K C) (n : NoAttr X.K C f) (l : fs.lookup f = some v) (h : Q v H) : AtW X f (.ref p) H Q := ⟨fun pins s σ u I ru => by
  obtain rfl : u = Value.ref p := ru
  exact getattr_ok I e c n l fun u' s2 I2 ru => ⟨v, H, I2, ru, h⟩⟩
theorem aw_con {C dx : Addr} {fs : List (Str × V)} {f : Str} {v : V} {u0 : Value} (e : H p = some (.ins C dx fs)) (c : Cls X.K C) (k : Con X.K C f v u0) (l : fs.lookup f = none) (h : Q v H) : AtW X f (.ref p) H Q := ⟨fun pins s σ u I ru => by
  obtain rfl : u = Value.ref p := ru
  exact getcon_ok I e c k l fun s2 I2 => ⟨v, H, I2, k.rel, h⟩⟩
theorem iw_add (h : Q (.int (i + j)) H) : IpW X .Add (.int i) (.int j) H Q := ip_add.w ⟨i, j, rfl, rfl, h⟩
theorem iw_sub (h : Q (.int (i - j)) H) : IpW X .Sub (.int i) (.int j) H Q := ip_sub.w ⟨i, j, rfl, rfl, h⟩
theorem slw_lst {lo hi : Option Int} (hs : SqL X.K H p xs) (h : ∀ r, H r = none → Q (.ref r) (upd H r (.lst (cutV xs lo hi)))) : SlW X (.ref p) lo hi H Q := sl_list.w ⟨p, xs, rfl, hs, h⟩
theorem slw_str {lo hi : Option Int} (hz : z.length ≤ sizeLine) (h : Q (.str (cutS z lo hi)) H) : SlW X (.str z) lo hi H Q := sl_str.w ⟨z, rfl, hz, h⟩
end
/-- the built-in names that the text leaves as they are -/
structure Blt (mg : Str → Option Value) : Prop where
  len : mg "len" = none
  int : mg "int" = none
  abs : mg "abs" = none
  isi : mg "isinstance" = none
  range : mg "range" = none
  boo : mg "bool" = none
  str : mg "str" = none
  lst : mg "list" = none
  tup : mg "tuple" = none
  max : mg "max" = none
  min : mg "min" = none
  zip : mg "zip" = none
  srt : mg "sorted" = none
  rev : mg "reversed" = none
  dm : mg "divmod" = none
  enu : mg "enumerate" = none
  sum : mg "sum" = none
  ve : mg "ValueError" = none
section
variable {X : Cx} {e b : Expr} {es : List Expr} {σ : St} {H : Hp} {Q : VK} {p pos : Pos}
theorem zc_len (B : Blt X.mg) (h : ZA X (e :: es) σ H fun vs H1 => CallW X (.builtin "len") vs H1 Q) (hg : Gl X "len" := by rfl) (he : starEach (e :: es) X.env = (false, eval e X.env) :: starEach es X.env := by rfl) (hpl : (backTo pos (starEach es X.env)).any (·.1) = false := by rfl) : ZE X (.Call (.Name "len" p) (e :: es) [] pos) σ H Q := ze_callB B.len boot_len h hg (by decide) (by decide) he hpl
theorem zc_abs (B : Blt X.mg) (h : ZA X (e :: es) σ H fun vs H1 => CallW X (.builtin "abs") vs H1 Q) (hg : Gl X "abs" := by rfl) (he : starEach (e :: es) X.env = (false, eval e X.env) :: starEach es X.env := by rfl) (hpl : (backTo pos (starEach es X.env)).any (·.1) = false := by rfl) : ZE X (.Call (.Name "abs" p) (e :: es) [] pos) σ H Q := ze_callB B.abs (by decide +kernel) h hg (by decide) (by decide) he hpl
theorem zc_isi (B : Blt X.mg) (h : ZA X (e :: es) σ H fun vs H1 => CallW X (.builtin "isinstance") vs H1 Q) (hg : Gl X "isinstance" := by rfl) (he : starEach (e :: es) X.env = (false, eval e X.env) :: starEach es X.env := by rfl) (hpl : (backTo pos (starEach es X.env)).any (·.1) = false := by rfl) : ZE X (.Call (.Name "isinstance" p) (e :: es) [] pos) σ H Q := ze_callB B.isi (by decide +kernel) h hg (by decide) (by decide) he hpl
theorem zc_max (B : Blt X.mg) (h : ZA X (e :: es) σ H fun vs H1 => CallW X (.builtin "max") vs H1 Q) (hg : Gl X "max" := by rfl) (he : starEach (e :: es) X.env = (false, eval e X.env) :: starEach es X.env := by rfl) (hpl : (backTo pos (starEach es X.env)).any (·.1) = false := by rfl) : ZE X (.Call (.Name "max" p) (e :: es) [] pos) σ H Q := ze_callB B.max (by decide +kernel) h hg (by decide) (by decide) he hpl
theorem zc_min (B : Blt X.mg) (h : ZA X (e :: es) σ H fun vs H1 => CallW X (.builtin "min") vs H1 Q) (hg : Gl X "min" := by rfl) (he : starEach (e :: es) X.env = (false, eval e X.env) :: starEach es X.env := by rfl) (hpl : (backTo pos (starEach es X.env)).any (·.1) = false := by rfl) : ZE X (.Call (.Name "min" p) (e :: es) [] pos) σ H Q := ze_callB B.min (by decide +kernel) h hg (by decide) (by decide) he hpl
theorem zc_dm (B : Blt X.mg) (h : ZA X (e :: es) σ H fun vs H1 => CallW X (.builtin "divmod") vs H1 Q) (hg : Gl X "divmod" := by rfl) (he : starEach (e :: es) X.env = (false, eval e X.env) :: starEach es X.env := by rfl) (hpl : (backTo pos (starEach es X.env)).any (·.1) = false := by rfl) : ZE X (.Call (.Name "divmod" p) (e :: es) [] pos) σ H Q := ze_callB B.dm (by decide +kernel) h hg (by decide) (by decide) he hpl
theorem zc_int (B : Blt X.mg) (h : ZA X (e :: es) σ H fun vs H1 => CallW X (.type "int") vs H1 Q) (hg : Gl X "int" := by rfl) (he : starEach (e :: es) X.env = (false, eval e X.env) :: starEach es X.env := by rfl) (hpl : (backTo pos (starEach es X.env)).any (·.1) = false := by rfl) : ZE X (.Call (.Name "int" p) (e :: es) [] pos) σ H Q := ze_callT B.int (by decide +kernel) h hg (by decide) (by decide) he hpl
theorem zc_boo (B : Blt X.mg) (h : ZA X (e :: es) σ H fun vs H1 => CallW X (.type "bool") vs H1 Q) (hg : Gl X "bool" := by rfl) (he : starEach (e :: es) X.env = (false, eval e X.env) :: starEach es X.env := by rfl) (hpl : (backTo pos (starEach es X.env)).any (·.1) = false := by rfl) : ZE X (.Call (.Name "bool" p) (e :: es) [] pos) σ H Q := ze_callT B.boo (by decide +kernel) h hg (by decide) (by decide) he hpl
theorem zc_tup (B : Blt X.mg) (h : ZA X (e :: es) σ H fun vs H1 => CallW X (.type "tuple") vs H1 Q) (hg : Gl X "tuple" := by rfl) (he : starEach (e :: es) X.env = (false, eval e X.env) :: starEach es X.env := by rfl) (hpl : (backTo pos (starEach es X.env)).any (·.1) = false := by rfl) : ZE X (.Call (.Name "tuple" p) (e :: es) [] pos) σ H Q := ze_callT B.tup (by decide +kernel) h hg (by decide) (by decide) he hpl
theorem zc_lst (B : Blt X.mg) (h : ZA X (e :: es) σ H fun vs H1 => CallW X (.type "list") vs H1 Q) (hg : Gl X "list" := by rfl) (he : starEach (e :: es) X.env = (false, eval e X.env) :: starEach es X.env := by rfl) (hpl : (backTo pos (starEach es X.env)).any (·.1) = false := by rfl) : ZE X (.Call (.Name "list" p) (e :: es) [] pos) σ H Q := ze_callT B.lst (by decide +kernel) h hg (by decide) (by decide) he hpl
theorem zc_str (B : Blt X.mg) (h : ZA X (e :: es) σ H fun vs H1 => CallW X (.type "str") vs H1 Q) (hg : Gl X "str" := by rfl) (he : starEach (e :: es) X.env = (false, eval e X.env) :: starEach es X.env := by rfl) (hpl : (backTo pos (starEach es X.env)).any (·.1) = false := by rfl) : ZE X (.Call (.Name "str" p) (e :: es) [] pos) σ H Q := ze_callT B.str (by decide +kernel) h hg (by decide) (by decide) he hpl
/-- a built-in class as a value -/
theorem zn_int (B : Blt X.mg) (h : Q (.ty "int") H) (hg : Gl X "int" := by rfl) : ZE X (.Name "int" pos) σ H Q := ze_bltn B.int (v := .ty "int") (u := .type "int") (by decide +kernel) rfl h hg (by decide) (by decide)
theorem zn_boo (B : Blt X.mg) (h : Q (.ty "bool") H) (hg : Gl X "bool" := by rfl) : ZE X (.Name "bool" pos) σ H Q := ze_bltn B.boo (v := .ty "bool") (u := .type "bool") (by decide +kernel) rfl h hg (by decide) (by decide)
theorem zn_str (B : Blt X.mg) (h : Q (.ty "str") H) (hg : Gl X "str" := by rfl) : ZE X (.Name "str" pos) σ H Q := ze_bltn B.str (v := .ty "str") (u := .type "str") (by decide +kernel) rfl h hg (by decide) (by decide)
theorem zn_lst (B : Blt X.mg) (h : Q (.ty "list") H) (hg : Gl X "list" := by rfl) : ZE X (.Name "list" pos) σ H Q := ze_bltn B.lst (v := .ty "list") (u := .type "list") (by decide +kernel) rfl h hg (by decide) (by decide)
theorem zn_tup (B : Blt X.mg) (h : Q (.ty "tuple") H) (hg : Gl X "tuple" := by rfl) : ZE X (.Name "tuple" pos) σ H Q := ze_bltn B.tup (v := .ty "tuple") (u := .type "tuple") (by decide +kernel) rfl h hg (by decide) (by decide)
theorem zn_ve (B : Blt X.mg) (h : Q (.ty "ValueError") H) (hg : Gl X "ValueError" := by rfl) : ZE X (.Name "ValueError" pos) σ H Q := ze_bltn B.ve (v := .ty "ValueError") (u := .type "ValueError") (by decide +kernel) rfl h hg (by decide) (by decide)
end
end L2
namespace L2
theorem zite_d {c A B : Prop} [Decidable c] (h1 : c → A) (h2 : ¬ c → B) : if decide c = true then A else B := by
  by_cases h : c
  · rw [if_pos (decide_eq_true h)]; exact h1 h
  · rw [if_neg (by simp [h])]; exact h2 h
theorem zite_n {c A B : Prop} [Decidable c] (h1 : ¬ c → A) (h2 : c → B) : if (!decide c) = true then A else B := by
  by_cases h : c
  · rw [if_neg (by simp [h])]; exact h2 h
  · rw [if_pos (by simp [h])]; exact h1 h
theorem zite_b {b : Bool} {A B : Prop} (h1 : b = true → A) (h2 : b = false → B) : if b = true then A else B := by
  cases b
  · exact h2 rfl
  · exact h1 rfl
theorem zite_nb {b : Bool} {A B : Prop} (h1 : b = false → A) (h2 : b = true → B) : if (!b) = true then A else B := by
  cases b
  · exact h1 rfl
  · exact h2 rfl
end L2
namespace L2
open PySem PySem.Spec PyProof.Rows
theorem atI_lt {α : Type} {xs : List α} {i : Int} (h0 : 0 ≤ i) (h1 : i < xs.length) : ∃ v, xs[i.toNat]? = some v ∧ atI xs i = some v := by
  have h2 : i.toNat < xs.length := by omega
  refine ⟨xs[i.toNat], List.getElem?_eq_getElem h2, ?_⟩
  have := atI_nat (j := i.toNat) (List.getElem?_eq_getElem h2)
  rwa [Int.toNat_of_nonneg h0] at this
theorem map_get {α β : Type} {f : α → β} {xs : List α} {n : Nat} {v : β} (h : (xs.map f)[n]? = some v) : ∃ x, xs[n]? = some x ∧ v = f x := by
  rw [List.getElem?_map] at h
  cases e : xs[n]? with
  | none => rw [e] at h; cases h
  | some x => rw [e] at h; exact ⟨x, rfl, (Option.some.inj h).symm⟩
/-- the law's source: its object, by its places (the script's list at q) -/
def SrcO (p q : Addr) : HO := .ext fun h => ∃ (i x1 x2 x3 : Int) (t0 t1 t2 t3 : Tok) (n : Nat), 0 ≤ i ∧ h.get? p = some { cls := .type "list", data := .seq #[.int i t0, .int x1 t1, .int x2 t2, .int x3 t3, .ref q] n }
def Src (H : Hp) (p : Addr) : Prop := ∃ (q : Addr) (ns : List Int), H p = some (SrcO p q) ∧ H q = some (.lst (ns.map V.int)) ∧ ns.length ≤ 1000
def srcL (i x1 x2 x3 : Int) (q : Addr) : HO := .lst [.int i, .int x1, .int x2, .int x3, .ref q]
def spDraw1 : Sp := fun vs H Q _ => ∃ (p q : Addr) (many i x1 x2 x3 : Int) (ns : List Int), vs = [.ref p, .int many] ∧ 0 < many ∧ many < 1073741824 ∧ H p = some (srcL i x1 x2 x3 q) ∧ 0 ≤ i ∧ H q = some (.lst (ns.map V.int)) ∧ ns.length ≤ 1000 ∧
  ∀ v i' x1' x2' x3', 0 ≤ v → v < many → 0 ≤ i' → Q (.int v) (upd H p (srcL i' x1' x2' x3' q))
def spDraw : Sp := fun vs H Q _ => ∃ (p : Addr) (many : Int), vs = [.ref p, .int many] ∧ 0 < many ∧ many < 1073741824 ∧ Src H p ∧ ∀ v, 0 ≤ v → v < many → Q (.int v) H
def spSrc1 (K : PySem.W.Frag) : Sp := fun vs H Q _ => ∃ (a : Addr) (ns : List Int), vs = [.ref a] ∧ SqL K H a (ns.map V.int) ∧ ns.length ≤ 1000 ∧ ∀ p q H', H p = none → H q = none → Same H H' → p ≠ q → H' p = some (srcL 0 0 0 0 q) → H' q = some (.lst (ns.map V.int)) → Q (.ref p) H'
def spSrc (K : PySem.W.Frag) : Sp := fun vs H Q _ => ∃ (a : Addr) (ns : List Int), vs = [.ref a] ∧ SqL K H a (ns.map V.int) ∧ ns.length ≤ 1000 ∧ ∀ p H', H p = none → Same H H' → Src H' p → Q (.ref p) H'
theorem ext_ne_tup {φ : Heap → Prop} {xs : List V} : HO.ext φ ≠ .tup xs := fun z => by cases z
theorem ext_ne_own {φ : Heap → Prop} {x : Addr} : HO.ext φ ≠ .own x := fun z => by cases z
theorem ext_ne_frz {φ : Heap → Prop} {o : Obj} {u : HO} : HO.ext φ ≠ .frz o u := fun z => by cases z
theorem ext_ne_tbl {φ : Heap → Prop} {ps : Array Value} : HO.ext φ ≠ .tbl ps := fun z => by cases z
theorem upd_none {H : Hp} {p b : Addr} {o u : HO} (hp : H p = some o) : upd H p u b = none ↔ H b = none := by
  by_cases e : b = p
  · subst e
    rw [upd_same, hp]
    simp
  · rw [upd_ne e]
section
variable {P : Program} {w : World} {K : PySem.W.Frag} {mg : Str → Option Value} {base : Heap} {CX : CXT} {k : Nat} {f : Addr} {fd : FuncData} {ps : List Str}
/-- an object's content is read in another way: the rest of the heap is told as before -/
theorem ObjOk.reread {H : Hp} {h : Heap} {p a : Addr} {o u v : HO} (hp : H p = some u) (n1 : ∀ x, u ≠ .own x) (n2 : ∀ xs, u ≠ .tup xs) (x : ObjOk P w H h a o) : ObjOk P w (upd H p v) h a o :=
  x.stay (fun _ _ _ z => z) (fun b hb => by rw [upd_ne (fun e => n1 _ (by rw [e, hp] at hb; exact Option.some.inj hb))]; exact hb) (fun b xs hb => by rw [upd_ne (fun e => n2 _ (by rw [e, hp] at hb; exact Option.some.inj hb))]; exact hb)
theorem Un.reread {fs : List Addr} {H : Hp} {h h' : Heap} {p : Addr} {u v v' : HO} (hp : H p = some u) (n2 : ∀ xs, u ≠ .tup xs) (n3 : ∀ o x, u ≠ .frz o x) (n4 : ∀ ps, u ≠ .tbl ps) (x : Un fs [] (upd H p v) (upd H p v') h h') : Un fs [] H H h h' where
  keep := fun b o e n => x.keep b o e ((upd_none hp).mpr n)
  slot := fun b o e n => x.slot b o e ((upd_none hp).mpr n)
  free := fun b o e n _ => n
  there := x.there
  tups := fun b xs e => e
  frzs := fun b o u e => e
  tbls := fun b ps e => ⟨#[], by rw [Array.append_empty]; exact e⟩
theorem draw_hide (F : FnOk P w K mg base CX k f fd ps spDraw1) (hCX : ∀ outer H s E e s', (∀ c d H', ¬ E c d H') → ¬ CX outer H s E e s') : FnOk P w K mg base CX k f fd ps spDraw := by
  refine ⟨fun vs H Q E h => ?_, fun A outer s H args us vs Q E hr e0 hb r h => ?_⟩
  · obtain ⟨p, many, rfl, h1, h2, ⟨q, ns, hp, hq, hl⟩, _⟩ := h
    have z : spDraw1 [.ref p, .int many] (upd (upd (fun _ => none) p (srcL 0 0 0 0 (p + 1))) (p + 1) (.lst (([] : List Int).map V.int))) (fun _ _ => True) E :=
      ⟨p, p + 1, many, 0, 0, 0, 0, [], rfl, h1, h2, by rw [upd_ne (Nat.ne_of_lt (Nat.lt_succ_self p)), upd_same], Int.le_refl _, upd_same, by simp, fun _ _ _ _ _ _ _ _ => trivial⟩
    exact F.len _ _ _ _ z
  · obtain ⟨p, many, rfl, h1, h2, ⟨q, ns, hp, hq, hl⟩, hQ⟩ := h
    obtain ⟨⟨i, x1, x2, x3, t0, t1, t2, t3, n, hi, hg⟩, -, -⟩ := (show ObjOk P w H s.heap p (SrcO p q) from e0.hok p _ hp)
    have n1 : ∀ x, SrcO p q ≠ .own x := fun x => ext_ne_own
    have n2 : ∀ xs, SrcO p q ≠ .tup xs := fun x => ext_ne_tup
    have n3 : ∀ o x, SrcO p q ≠ .frz o x := fun o x => ext_ne_frz
    have n4 : ∀ ps, SrcO p q ≠ .tbl ps := fun x => ext_ne_tbl
    have npq : q ≠ p := fun e => by
      rw [e, hp] at hq
      have z := Option.some.inj hq
      unfold SrcO at z
      cases z
    have e1 : Env0 P w K mg base A outer s (upd H p (srcL i x1 x2 x3 q)) := {
      frames := e0.frames
      mod := e0.mod
      bs := fun b o e => ⟨(e0.bs b o e).1, (upd_none hp).mpr (e0.bs b o e).2⟩
      bsz := e0.bsz
      funs := e0.funs
      frf := fun b hb => (upd_none hp).mpr (e0.frf b hb)
      hok := fun a o e => by
        by_cases ea : a = p
        · subst ea
          rw [upd_same] at e
          cases e
          exact ⟨(by show 5 ≤ sizeLine; decide), [.int i t0, .int x1 t1, .int x2 t2, .int x3 t3, .ref q], n, .cons ⟨_, rfl⟩ (.cons ⟨_, rfl⟩ (.cons ⟨_, rfl⟩ (.cons ⟨_, rfl⟩ (.cons rfl .nil)))), hg⟩
        · rw [upd_ne ea] at e
          exact (e0.hok a o e).reread hp n1 n2
      bare := e0.bare }
    refine codeAny_mono (F.run A outer s _ args us _ (fun v H' => ∃ z i' x1' x2' x3', v = .int z ∧ 0 ≤ z ∧ z < many ∧ 0 ≤ i' ∧ H' = upd H p (srcL i' x1' x2' x3' q)) (fun _ _ _ => False) hr e1 hb r
      ⟨p, q, many, i, x1, x2, x3, ns, rfl, h1, h2, upd_same, hi, by rw [upd_ne npq]; exact hq, hl, fun v i' x1' x2' x3' a b c => ⟨v, i', x1', x2', x3', rfl, a, b, c, upd_upd⟩⟩) fun r s' hq' => ?_
    cases r with
    | error e => exact absurd hq' (hCX _ _ _ _ _ _ fun _ _ _ z => z)
    | ok fl =>
      cases fl with
      | ret u =>
        obtain ⟨v, H', os2, bare2, un2, hok2, rv, z, i', x1', x2', x3', rfl, a, b, c, rfl⟩ := hq'
        refine ⟨.int z, H, os2, bare2, un2.reread hp n2 n3 n4, fun a o e => ?_, rv, hQ z a b⟩
        by_cases ea : a = p
        · subst ea
          rw [hp] at e
          cases e
          obtain ⟨_, its, n', vv, gg⟩ := (show ObjOk P w _ s'.heap a (.lst [.int i', .int x1', .int x2', .int x3', .ref q]) from hok2 a _ upd_same)
          cases vv with
          | cons r1 vv => cases vv with
            | cons r2 vv => cases vv with
              | cons r3 vv => cases vv with
                | cons r4 vv => cases vv with
                  | cons r5 vv =>
                    cases vv
                    obtain ⟨_, rfl⟩ := r1
                    obtain ⟨_, rfl⟩ := r2
                    obtain ⟨_, rfl⟩ := r3
                    obtain ⟨_, rfl⟩ := r4
                    cases r5
                    refine ⟨⟨i', x1', x2', x3', _, _, _, _, n', c, gg⟩, ⟨_, gg⟩, fun h1 h2 ⟨j, y1, y2, y3, u0, u1, u2, u3, m, hj, hm⟩ kk => ⟨j, y1, y2, y3, u0, u1, u2, u3, m, hj, kk _ hm⟩⟩
        · have e' : upd H p (srcL i' x1' x2' x3' q) a = some o := by rw [upd_ne ea]; exact e
          have x := hok2 a o e'
          have y := ObjOk.reread (H := upd H p (srcL i' x1' x2' x3' q)) (p := p) (u := srcL i' x1' x2' x3' q) (v := SrcO p q) upd_same (fun x z => by cases z) (fun x z => by cases z) x
          have e2 : upd (upd H p (srcL i' x1' x2' x3' q)) p (SrcO p q) = H := by
            rw [upd_upd]
            funext b
            by_cases hb : b = p
            · rw [hb, upd_same, hp]
            · rw [upd_ne hb]
          rw [e2] at y
          exact y
      | next => exact False.elim hq'
      | brk => exact False.elim hq'
      | cont => exact False.elim hq'
theorem src_hide (F : FnOk P w K mg base CX k f fd ps (spSrc1 K)) (hCX : ∀ outer H s E e s', (∀ c d H', ¬ E c d H') → ¬ CX outer H s E e s') : FnOk P w K mg base CX k f fd ps (spSrc K) := by
  refine ⟨fun vs H Q E h => ?_, fun A outer s H args us vs Q E hr e0 hb r h => ?_⟩
  · obtain ⟨a, ns, rfl, h1, h2, h3⟩ := h
    exact F.len [.ref a] H (fun _ _ => True) E ⟨a, ns, rfl, h1, h2, fun _ _ _ _ _ _ _ _ _ => trivial⟩
  · obtain ⟨a, ns, rfl, h1, h2, hQ⟩ := h
    refine codeAny_mono (F.run A outer s _ args us _ (fun v H' => ∃ p q, v = .ref p ∧ H p = none ∧ Same H H' ∧ p ≠ q ∧ H' p = some (srcL 0 0 0 0 q) ∧ H' q = some (.lst (ns.map V.int))) (fun _ _ _ => False) hr e0 hb r
      ⟨a, ns, rfl, h1, h2, fun p q H' a1 _ a2 a3 a4 a5 => ⟨p, q, rfl, a1, a2, a3, a4, a5⟩⟩) fun r s' hq' => ?_
    cases r with
    | error e => exact absurd hq' (hCX _ _ _ _ _ _ fun _ _ _ z => z)
    | ok fl =>
      cases fl with
      | ret u =>
        obtain ⟨v, H', os2, bare2, un2, hok2, rv, p, q, rfl, np, sm, npq, hp, hqq⟩ := hq'
        have n1 : ∀ x, srcL 0 0 0 0 q ≠ .own x := fun x z => by cases z
        have n2 : ∀ xs, srcL 0 0 0 0 q ≠ .tup xs := fun x z => by cases z
        refine ⟨.ref p, upd H' p (SrcO p q), os2, bare2, ?_, fun b o e => ?_, rv, hQ p _ np (fun b o e => ?_) ⟨q, ns, upd_same, by rw [upd_ne npq.symm]; exact hqq, h2⟩⟩
        · exact {
            keep := un2.keep
            slot := un2.slot
            free := fun b o e n nx => (upd_none hp).mpr (un2.free b o e n nx)
            there := un2.there
            tups := fun b xs e => by rw [upd_ne (ne_of_none e np)]; exact un2.tups b xs e
            frzs := fun b o u e => by rw [upd_ne (ne_of_none e np)]; exact un2.frzs b o u e
            tbls := fun b ps e => by rw [upd_ne (ne_of_none e np)]; exact un2.tbls b ps e }
        · by_cases ea : b = p
          · subst ea
            rw [upd_same] at e
            cases e
            obtain ⟨_, its, n', vv, gg⟩ := (show ObjOk P w _ s'.heap b (.lst [.int 0, .int 0, .int 0, .int 0, .ref q]) from hok2 b _ hp)
            cases vv with
            | cons r1 vv => cases vv with
              | cons r2 vv => cases vv with
                | cons r3 vv => cases vv with
                  | cons r4 vv => cases vv with
                    | cons r5 vv =>
                      cases vv
                      obtain ⟨_, rfl⟩ := r1
                      obtain ⟨_, rfl⟩ := r2
                      obtain ⟨_, rfl⟩ := r3
                      obtain ⟨_, rfl⟩ := r4
                      cases r5
                      refine ⟨⟨0, 0, 0, 0, _, _, _, _, n', Int.le_refl _, gg⟩, ⟨_, gg⟩, fun h1 h2 ⟨j, y1, y2, y3, u0, u1, u2, u3, m, hj, hm⟩ kk => ⟨j, y1, y2, y3, u0, u1, u2, u3, m, hj, kk _ hm⟩⟩
          · rw [upd_ne ea] at e
            exact (hok2 b o e).reread hp n1 n2
        · rw [upd_ne (ne_of_none e np)]
          exact sm b o e
      | next => exact False.elim hq'
      | brk => exact False.elim hq'
      | cont => exact False.elim hq'
theorem cxn_no {outer : List Env} {H : Hp} {s : Shared} {E : XK} {e : Value} {s' : Shared} (h : ∀ c d H', ¬ E c d H') : ¬ L2N.CX P w outer H s E e s' := fun ⟨_, _, _, _, _, _, _, _, _, _, _, _, z⟩ => h _ _ _ z
def noT : HO → Prop
  | .dT _ => False
  | .frz _ u => noT u
  | _ => True
theorem ObjOk.forget {H H' : Hp} {h h' : Heap} {a : Addr} {o : HO} (n : noT o) (x0 : ObjOk P w H h a o) (z : ObjOk P w H' h' a o) : ObjOk P w H h' a o := by
  induction o with
  | lst xs => exact z
  | tup xs => exact z
  | dK kvs => exact z
  | dT kvs => exact n.elim
  | set S n => exact z
  | ins C dx fs => exact ⟨x0.1, z.2⟩
  | own y => exact z
  | xd fs => exact z
  | rng lo hi => exact z
  | frz ob u ih => exact ⟨z.1, ih n x0.2 z.2⟩
  | tbl ps => exact z
  | met f y => exact z
  | ext φ => exact z
/-- what a call has tracked beside what stood before is let go, where its value needs none of it -/
theorem HOk.forget {H H' : Hp} {h h' : Heap} (nt : ∀ a o, H a = some o → noT o) (x : HOk P w H h) (y : HOk P w H' h') (sm : Same H H') : HOk P w H h' := fun a o e =>
  (x a o e).forget (nt a o e) (y a o (sm a o e))
/-- a def whose value is no object: what it makes on its way is let go -/
theorem FnOk.forget {sp : Sp} (F : FnOk P w K mg base CX k f fd ps sp) (hCX : ∀ outer H s E e s', (∀ c d H', ¬ E c d H') → ¬ CX outer H s E e s') :
    FnOk P w K mg base CX k f fd ps (fun vs H Q _ => (∀ a o, H a = some o → noT o) ∧ sp vs H (fun v H' => Same H H' ∧ Q v H) (fun _ _ _ => False)) := by
  refine ⟨fun vs H Q E h => F.len vs H _ _ h.2, fun A outer s H args us vs Q E hr e0 hb r h => ?_⟩
  refine codeAny_mono (F.run A outer s H args us vs _ _ hr e0 hb r h.2) fun r s' hq' => ?_
  cases r with
  | error e => exact absurd hq' (hCX _ _ _ _ _ _ fun _ _ _ z => z)
  | ok fl =>
    cases fl with
    | ret u =>
      obtain ⟨v, H', os2, bare2, un2, hok2, rv, sm, q⟩ := hq'
      exact ⟨v, H, os2, bare2, { keep := un2.keep, slot := un2.slot, free := fun b o e n _ => n, there := un2.there, tups := fun b xs e => e, frzs := fun b o u e => e, tbls := fun b ps e => ⟨#[], by rw [Array.append_empty]; exact e⟩ }, e0.hok.forget h.1 hok2 sm, rv, q⟩
    | next => exact False.elim hq'
    | brk => exact False.elim hq'
    | cont => exact False.elim hq'
end
end L2
namespace L2
open PySem PySem.Spec PyProof.Rows
theorem iteP {b : Bool} {A B : Prop} (h : b = true) (k : A) : if b = true then A else B := by rw [if_pos h]; exact k
theorem iteN {b : Bool} {A B : Prop} (h : b = false) (k : B) : if b = true then A else B := by rw [h, if_neg Bool.false_ne_true]; exact k
theorem upd_id {H : Hp} {p : Addr} {o : HO} (h : H p = some o) : upd H p o = H := by
  funext b
  by_cases e : b = p
  · rw [e, upd_same, h]
  · rw [upd_ne e]
end L2

/-! The rules as the steps take them: names by an explicit list, side conditions apart. -/
namespace L2
open PySem PySem.Spec PyProof.Rows
/-- the name x stands at place i, with v -/
inductive At : List Str → St → Str → Nat → V → Prop
  | here {x : Str} {N : List Str} {σ : St} {v : V} : At (x :: N) (some v :: σ) x 0 v
  | there {x n : Str} {N : List Str} {σ : St} {s : Option V} {v : V} {i : Nat} : At N σ x i v → At (n :: N) (s :: σ) x (i + 1) v
/-- the name x is stored: σ' -/
inductive SetAt : List Str → St → Str → Nat → V → St → Prop
  | here {x : Str} {N : List Str} {σ : St} {s : Option V} {v : V} : SetAt (x :: N) (s :: σ) x 0 v (some v :: σ)
  | there {x n : Str} {N : List Str} {σ σ' : St} {s : Option V} {v : V} {i : Nat} : SetAt N σ x i v σ' → SetAt (n :: N) (s :: σ) x (i + 1) v (s :: σ')
theorem At.get {N : List Str} {σ : St} {x : Str} {i : Nat} {v : V} (h : At N σ x i v) : N[i]? = some x ∧ σ[i]? = some (some v) := by
  induction h with
  | here => exact ⟨rfl, rfl⟩
  | there _ ih => exact ⟨by simpa using ih.1, by simpa using ih.2⟩
theorem SetAt.get {N : List Str} {σ σ' : St} {x : Str} {i : Nat} {v : V} (h : SetAt N σ x i v σ') : N[i]? = some x ∧ σ.set i (some v) = σ' := by
  induction h with
  | here => exact ⟨rfl, rfl⟩
  | there _ ih => exact ⟨by simpa using ih.1, by simpa using ih.2⟩
/-- the names of a def: the first M are its own -/
structure NOk (N : List Str) (M : Nat) (sc : Scope) : Prop where
  nd : N.Nodup
  ok : ∀ x ∈ N.take M, (sc.names.lookup x = some .local ∨ sc.names.lookup x = some .cell) ∧ (x == ("__debug__" : Str)) = false ∧ (x == ("__classdict__" : Str)) = false
theorem NOk.at {N : List Str} {M : Nat} {sc : Scope} (h : NOk N M sc) {i : Nat} {x : Str} (hi : i < M) (e : N[i]? = some x) : Loc sc x ∧ (x == ("__debug__" : Str)) = false ∧ (x == ("__classdict__" : Str)) = false :=
  h.ok x (by
    have : (N.take M)[i]? = some x := by rw [List.getElem?_take_of_lt hi]; exact e
    exact List.mem_of_getElem? this)
theorem Loc.vis {sc : Scope} {x : Str} (h : Loc sc x) : Vis sc x := h.elim .inl fun z => .inr (.inl z)
section
variable {X : Cx} {e a b c : Expr} {es : List Expr} {st : Stmt} {sts rest : List Stmt} {σ σ' : St} {H : Hp} {Q : VK} {nx bk ct : NX} {rt : VK} {pos p : Pos} {N : List Str} {M i : Nat} {x : Str} {v : V}
theorem s_name {sc : Scope} (S : NOk N M sc) (at_ : At N σ x i v) (hi : i < M) (hN : X.N = N ∧ X.env.scope = sc) (q : Q v H) : ZE X (.Name x pos) σ H Q :=
  ze_var i (by rw [hN.1]; exact at_.get.1) at_.get.2 q (by rw [hN.2]; exact (S.at hi at_.get.1).1.vis) (S.at hi at_.get.1).2.1 (S.at hi at_.get.1).2.2
theorem s_set {pos' : Pos} {sc : Scope} (S : NOk N M sc) (hN : X.N = N ∧ X.env.scope = sc) (hf : X.fn x = true) (h : ZE X e σ H fun v H1 => ∃ i σ', SetAt N σ x i v σ' ∧ i < M ∧ nx σ' H1) (hs : swapsWith e (some (.Name x pos')) pos.line X.env = pure false) : ZS X (.Assign [.Name x pos'] e pos) nx rt bk ct σ H := by
  refine ⟨fun pins s I => ?_⟩
  refine wpAny_Assign_Name (thn (h.run pins s I) fun u s1 ⟨v, H1, I1, r, i, σ', sa, hi, q⟩ => ?_) hs
  have g := sa.get
  refine store_ok (i := i) (v := v) I1 (by rw [hN.1]; exact S.nd) (by rw [hN.1]; exact g.1) (by rw [hN.2]; exact (S.at hi g.1).1) r (fun s2 I2 => ?_) (.inl hf)
  rw [g.2] at I2
  exact ⟨σ', H1, I2, q⟩
theorem s_setAt {R : St → Prop} (sa : SetAt N σ x i v σ') (hi : i < M) (k : R σ') : ∃ i σ', SetAt N σ x i v σ' ∧ i < M ∧ R σ' := ⟨i, σ', sa, hi, k⟩
theorem s_gname {Q : St → Hp → Prop} {sc : Scope} (S : NOk N M sc) (sa : SetAt N σ x i v σ') (hi : i < M) (hN : X.N = N ∧ X.env.scope = sc) (hf : X.fn x = true) (q : Q σ' H) : ZG X (.Name x pos) v σ H Q :=
  zg_name i (by rw [hN.1]; exact S.nd) (by rw [hN.1]; exact sa.get.1) (by rw [sa.get.2]; exact q) (by rw [hN.2]; exact (S.at hi sa.get.1).1) (.inl hf)
theorem s_expr (h : ZE X e σ H fun _ H1 => nx σ H1) (hs : swapsWith e none pos.line X.env = pure false) : ZS X (.Expr e pos) nx rt bk ct σ H := zs_expr h hs
theorem s_asg (h : ZE X e σ H fun x H1 => ZG X a x σ H1 nx) (hs : swapsWithSole [a] e pos.line X.env = pure false) (hw : swappedStores [a] e X.env = pure none)
    (h1 : (assignEach [a] X.env).map (·.2) = [assign a X.env]) : ZS X (.Assign [a] e pos) nx rt bk ct σ H := zs_asg h hs hw h1
theorem s_attrS {f : Str} {pos' : Pos} (h : ZE X e σ H fun y H1 => ZE X a σ H1 fun x H2 => ∃ p C dx fs, x = .ref p ∧ H2 p = some (.ins C dx fs) ∧ Cls X.K C ∧ NoAttr X.K C f ∧ fs.length < 1000 ∧ nx σ (upd H2 p (.ins C dx (putF f y fs))))
    (hs : swapsWith e (some (.Attribute a f pos')) pos.line X.env = pure false) : ZS X (.Assign [.Attribute a f pos'] e pos) nx rt bk ct σ H := zs_attr h hs
theorem s_glob {u : Value} (hm : X.mg x = some u) (r : RelV v u) (hg : Gl X x) (hd : (x == ("__debug__" : Str)) = false) (q : Q v H) : ZE X (.Name x pos) σ H Q := ze_glob hm r q hg hd
theorem s_gref {mg : Str → Option Value} {a : Addr} (hm : mg x = some (.ref a)) (hB : X.mg = mg) (hg : Gl X x) (hd : (x == ("__debug__" : Str)) = false) (q : Q (.ref a) H) : ZE X (.Name x pos) σ H Q := ze_glob (v := .ref a) (by rw [hB]; exact hm) rfl q hg hd
theorem s_cons {Q : List V → Hp → Prop} (h : ZE X e σ H fun x H1 => ZA X es σ H1 fun xs H2 => Q (x :: xs) H2) (hs : starEach (e :: es) X.env = (false, eval e X.env) :: starEach es X.env) : ZA X (e :: es) σ H Q := za_cons h hs
theorem s_sub (h : ZE X a σ H fun x H1 => ZE X b σ H1 fun y H2 => IxW X σ x y H2 Q) (hs : PlainIx b) : ZE X (.Subscript a b pos) σ H Q := ze_sub h hs
theorem s_attr {f : Str} (h : ZE X a σ H fun x H1 => AtW X f x H1 Q) (hb : attributeBase a f X.env (eval a X.env) = eval a X.env) : ZE X (.Attribute a f pos) σ H Q := ze_attr h hb
theorem s_val {Q : Bool → Hp → Prop} (h : ZE X e σ H fun x H1 => ∃ k, x = .bl k ∧ Q k H1) (he : ∀ whole, isTrue e X.env whole = (do let v ← whole; standAt e.pos; holding [v] (truthy v))) : ZT X e σ H Q := zt_val h he
theorem s_truth {Q : Bool → Hp → Prop} (h : ZE X e σ H fun x H1 => ∃ k, TruV X.K x H1 k ∧ Q k H1) (he : ∀ whole, isTrue e X.env whole = (do let v ← whole; standAt e.pos; holding [v] (truthy v))) : ZT X e σ H Q := zt_truth h he
theorem s_gsub {Q : St → Hp → Prop} (h : ZE X a σ H fun o H1 => ZE X b σ H1 fun i H2 => SetW X o i v H2 fun H3 => Q σ H3)
    (ha : ∀ v, assign (.Subscript a b pos) X.env v = (do
      let ov ← holding [v] (eval a X.env)
      let iv ← holding [v, ov] (eval b X.env)
      standAt pos
      holding [v, ov, iv] (setItem ov iv v)
      release [v, ov, iv] [])) : ZG X (.Subscript a b pos) v σ H Q := zg_sub h ha
/-- the names of built-in functions, and what they are -/
inductive BFn : Str → String → Prop
  | len : BFn "len" "len" | abs : BFn "abs" "abs" | isi : BFn "isinstance" "isinstance" | max : BFn "max" "max" | min : BFn "min" "min" | dm : BFn "divmod" "divmod"
inductive BTy : Str → String → Prop
  | int : BTy "int" "int" | boo : BTy "bool" "bool" | str : BTy "str" "str" | tup : BTy "tuple" "tuple" | lst : BTy "list" "list" | ve : BTy "ValueError" "ValueError"
theorem BFn.ok {x : Str} {id : String} (h : BFn x id) {mg : Str → Option Value} (B : Blt mg) : mg x = none ∧ bootBuiltins x = some (.builtin id) ∧ x ≠ "__name__" ∧ (x == ("__debug__" : Str)) = false := by
  cases h with
  | len => exact ⟨B.len, boot_len, by decide, by decide⟩
  | abs => exact ⟨B.abs, by decide +kernel, by decide, by decide⟩
  | isi => exact ⟨B.isi, by decide +kernel, by decide, by decide⟩
  | max => exact ⟨B.max, by decide +kernel, by decide, by decide⟩
  | min => exact ⟨B.min, by decide +kernel, by decide, by decide⟩
  | dm => exact ⟨B.dm, by decide +kernel, by decide, by decide⟩
theorem BTy.ok {x : Str} {id : String} (h : BTy x id) {mg : Str → Option Value} (B : Blt mg) : mg x = none ∧ bootBuiltins x = some (.type id) ∧ x ≠ "__name__" ∧ (x == ("__debug__" : Str)) = false := by
  cases h with
  | int => exact ⟨B.int, by decide +kernel, by decide, by decide⟩
  | boo => exact ⟨B.boo, by decide +kernel, by decide, by decide⟩
  | str => exact ⟨B.str, by decide +kernel, by decide, by decide⟩
  | tup => exact ⟨B.tup, by decide +kernel, by decide, by decide⟩
  | lst => exact ⟨B.lst, by decide +kernel, by decide, by decide⟩
  | ve => exact ⟨B.ve, by decide +kernel, by decide, by decide⟩
theorem s_callB {id : String} {mg : Str → Option Value} (f : BFn x id) (B : Blt mg) (hB : X.mg = mg) (h : ZA X (e :: es) σ H fun vs H1 => CallW X (.builtin id) vs H1 Q) (hg : Gl X x)
    (he : starEach (e :: es) X.env = (false, eval e X.env) :: starEach es X.env) (hpl : (backTo pos (starEach es X.env)).any (·.1) = false) : ZE X (.Call (.Name x p) (e :: es) [] pos) σ H Q := by
  subst hB; exact ze_callB (f.ok B).1 (f.ok B).2.1 h hg (f.ok B).2.2.1 (f.ok B).2.2.2 he hpl
theorem s_callT {id : String} {mg : Str → Option Value} (f : BTy x id) (B : Blt mg) (hB : X.mg = mg) (h : ZA X (e :: es) σ H fun vs H1 => CallW X (.type id) vs H1 Q) (hg : Gl X x)
    (he : starEach (e :: es) X.env = (false, eval e X.env) :: starEach es X.env) (hpl : (backTo pos (starEach es X.env)).any (·.1) = false) : ZE X (.Call (.Name x p) (e :: es) [] pos) σ H Q := by
  subst hB; exact ze_callT (f.ok B).1 (f.ok B).2.1 h hg (f.ok B).2.2.1 (f.ok B).2.2.2 he hpl
theorem s_bty {id : String} {mg : Str → Option Value} (f : BTy x id) (B : Blt mg) (hB : X.mg = mg) (hg : Gl X x) (q : Q (.ty id) H) : ZE X (.Name x pos) σ H Q := by
  subst hB; exact ze_bltn (v := .ty id) (u := .type id) (f.ok B).1 (f.ok B).2.1 rfl q hg (f.ok B).2.2.1 (f.ok B).2.2.2
/-- where a body stands -/
structure XIs (X : Cx) (P : Program) (w : World) (K : PySem.W.Frag) (mg : Str → Option Value) (base : Heap) (A : Around) : Prop where
  prog : X.prog = P
  w : X.w = w
  K : X.K = K
  mg : X.mg = mg
  base : X.base = base
  A : X.A = A
theorem s_call {P : Program} {w : World} {K : PySem.W.Frag} {mg : Str → Option Value} {base : Heap} {A : Around} {k j : Nat} {sp : Sp} (c : Cal P w K mg base k x sp) (hr : Room j A) (hk : k ≤ j) (hX : XIs X P w K mg base A) (h : ZA X (e :: es) σ H fun vs H1 => sp vs H1 Q fun cls d H' => XW X cls d σ H') (hg : Gl X x)
    (hdb : (x == ("__debug__" : Str)) = false) (he : starEach (e :: es) X.env = (false, eval e X.env) :: starEach es X.env) (hpl : (backTo pos (starEach es X.env)).any (·.1) = false) : ZE X (.Call (.Name x p) (e :: es) [] pos) σ H Q := by
  obtain ⟨rfl, rfl, rfl, rfl, rfl, rfl⟩ := hX
  exact ze_call c hr hk h hg hdb he hpl
theorem s_call0 {P : Program} {w : World} {K : PySem.W.Frag} {mg : Str → Option Value} {base : Heap} {A : Around} {k j : Nat} {sp : Sp} (c : Cal P w K mg base k x sp) (hr : Room j A) (hk : k ≤ j) (hX : XIs X P w K mg base A) (h : sp [] H Q fun cls d H' => XW X cls d σ H') (hg : Gl X x)
    (hdb : (x == ("__debug__" : Str)) = false) : ZE X (.Call (.Name x p) [] [] pos) σ H Q := by
  obtain ⟨rfl, rfl, rfl, rfl, rfl, rfl⟩ := hX
  exact ze_call0 c hr hk h hg hdb
end
end L2

/-! More rules: heaps by what they keep, texts' methods, blocks, loops, calls within an except suite. -/
namespace L2
open PySem PySem.Spec PyProof.Rows
/-! ### heaps -/
theorem Same.get {H H' : Hp} {a : Addr} {o : HO} (s : Same H H') (h : H a = some o) : H' a = some o := s a o h
theorem Same.new {H H' : Hp} {p : Addr} {o : HO} (s : Same H H') (n : H' p = none) : Same H (upd H' p o) := fun a u e => by rw [upd_ne (ne_of_none (s a u e) n)]; exact s a u e
theorem Same.put {H H' : Hp} {p : Addr} {o : HO} (s : Same H H') (n : H p = none) : Same H (upd H' p o) := fun a u e => by rw [upd_ne (ne_of_none e n)]; exact s a u e
theorem upd_no {H : Hp} {p q : Addr} {o : HO} (h : upd H p o q = none) : H q = none := by
  by_cases e : q = p
  · subst e; rw [upd_same] at h; cases h
  · rwa [upd_ne e] at h
theorem upd_no_ne {H : Hp} {p q : Addr} {o : HO} (h : upd H p o q = none) : q ≠ p := fun e => by subst e; rw [upd_same] at h; cases h
/-- p is free in H -/
structure NoA (H : Hp) (p : Addr) : Prop where
  e : H p = none
theorem intro_no {H : Hp} {R : Addr → Prop} (h : ∀ p, NoA H p → R p) : ∀ p, H p = none → R p := fun p e => h p ⟨e⟩
/-- a is tracked in H -/
def Trk (H : Hp) (a : Addr) : Prop := ∃ o, H a = some o
theorem Trk.of {H : Hp} {a : Addr} {o : HO} (h : H a = some o) : Trk H a := ⟨o, h⟩
theorem Trk.put {H : Hp} {a : Addr} {o : HO} : Trk (upd H a o) a := ⟨o, upd_same⟩
theorem Trk.up {H : Hp} {a p : Addr} {o : HO} (h : Trk H a) : Trk (upd H p o) a := by
  by_cases e : a = p
  · subst e; exact .put
  · obtain ⟨u, hu⟩ := h; exact ⟨u, by rw [upd_ne e]; exact hu⟩
theorem Trk.same {H H' : Hp} {a : Addr} (s : Same H H') (h : Trk H a) : Trk H' a := ⟨_, s _ _ h.choose_spec⟩
theorem Trk.src {H : Hp} {a : Addr} (h : Src H a) : Trk H a := by obtain ⟨q, ns, a, b, c⟩ := h; exact ⟨_, a⟩
theorem Trk.ne {H : Hp} {a b : Addr} (h : Trk H a) (n : NoA H b) : a ≠ b := ne_of_none h.choose_spec n.e
theorem NoA.ne {H : Hp} {a b : Addr} {o : HO} (h : H a = some o) (n : NoA H b) : a ≠ b := ne_of_none h n.e
theorem NoA.free {H H' : Hp} {a : Addr} (s : Same H H') (n : NoA H' a) : H a = none := Same.free s n.e
theorem Src.same {H H' : Hp} {p : Addr} (s : Same H H') (h : Src H p) : Src H' p := by
  obtain ⟨q, ns, a, b, c⟩ := h
  exact ⟨q, ns, s _ _ a, s _ _ b, c⟩
/-! ### isinstance of a built-in class -/
section
variable {X : Cx} {H : Hp} {Q : VK} {x : V}
theorem cw_isb {a b : String} {r : Bool} (hx : TyX X.K H x (.type a)) (hk : kitB a b = some r) (h : Q (.bl r) H) : CallW X (.builtin "isinstance") [x, .ty b] H Q := cw_isi (.ty b) hx (kit_ty hk) h
end
/-! ### methods of texts and lists -/
inductive BM : String → Str → String → Prop
  | startswith : BM "str" "startswith" "str.startswith" | endswith : BM "str" "endswith" "str.endswith" | upper : BM "str" "upper" "str.upper" | lower : BM "str" "lower" "str.lower"
  | strip : BM "str" "strip" "str.strip" | join : BM "str" "join" "str.join" | find : BM "str" "find" "str.find" | count : BM "str" "count" "str.count" | split : BM "str" "split" "str.split"
  | index : BM "list" "index" "list.index" | append : BM "list" "append" "list.append" | isdigit : BM "str" "isdigit" "str.isdigit" | isalpha : BM "str" "isalpha" "str.isalpha" | partition : BM "str" "partition" "str.partition"
  | rstrip : BM "str" "rstrip" "str.rstrip" | lstrip : BM "str" "lstrip" "str.lstrip" | isspace : BM "str" "isspace" "str.isspace" | isalnum : BM "str" "isalnum" "str.isalnum"
theorem BM.ok {T id : String} {m : Str} (h : BM T m id) : PlainAttrs T ∧ Slot T m id ∧ typeOf (.builtin id) = pure (.type "method_descriptor") := by
  cases h with
  | startswith => exact ⟨F.plainAttrs_str, F.slot_str_startswith, F.type_str_startswith⟩
  | endswith => exact ⟨F.plainAttrs_str, F.slot_str_endswith, F.type_str_endswith⟩
  | upper => exact ⟨F.plainAttrs_str, F.slot_str_upper, F.type_str_upper⟩
  | lower => exact ⟨F.plainAttrs_str, F.slot_str_lower, F.type_str_lower⟩
  | strip => exact ⟨F.plainAttrs_str, F.slot_str_strip, F.type_str_strip⟩
  | join => exact ⟨F.plainAttrs_str, F.slot_str_join, F.type_str_join⟩
  | find => exact ⟨F.plainAttrs_str, F.slot_str_find, F.type_str_find⟩
  | count => exact ⟨F.plainAttrs_str, F.slot_str_count, F.type_str_count⟩
  | split => exact ⟨F.plainAttrs_str, F.slot_str_split, F.type_str_split⟩
  | index => exact ⟨F.plainAttrs_list, F.slot_list_index, F.type_list_index⟩
  | append => exact ⟨F.plainAttrs_list, F.slot_list_append, F.type_list_append⟩
  | isdigit => exact ⟨F.plainAttrs_str, F.slot_str_isdigit, F.type_str_isdigit⟩
  | isalpha => exact ⟨F.plainAttrs_str, F.slot_str_isalpha, F.type_str_isalpha⟩
  | partition => exact ⟨F.plainAttrs_str, F.slot_str_partition, F.type_str_partition⟩
  | rstrip => exact ⟨F.plainAttrs_str, F.slot_str_rstrip, F.type_str_rstrip⟩
  | lstrip => exact ⟨F.plainAttrs_str, F.slot_str_lstrip, F.type_str_lstrip⟩
  | isspace => exact ⟨F.plainAttrs_str, F.slot_str_isspace, F.type_str_isspace⟩
  | isalnum => exact ⟨F.plainAttrs_str, F.slot_str_isalnum, F.type_str_isalnum⟩
section
variable {X : Cx} {e a b c : Expr} {es : List Expr} {σ : St} {H : Hp} {Q : VK} {pos apos : Pos} {z z2 : Str} {p : Addr} {xs : List V} {y : V}
theorem s_bm0 {T id : String} {m : Str} (f : BM T m id) (h : ZE X a σ H fun x H1 => tyV X.K T x H1 ∧ MtW X id x [] H1 Q) (hbase : attributeBase a m X.env (eval a X.env) = eval a X.env) (hline : (apos.endLine == pos.line) = true) :
    ZE X (.Call (.Attribute a m apos) [] [] pos) σ H Q := ze_bm0 f.ok.1 f.ok.2.1 f.ok.2.2 h hbase hline
theorem s_bm {T id : String} {m : Str} (f : BM T m id) (h : ZE X a σ H fun x H1 => tyV X.K T x H1 ∧ ZA X (e :: es) σ H1 fun xs H2 => MtW X id x xs H2 Q) (hbase : attributeBase a m X.env (eval a X.env) = eval a X.env) (hline : (apos.endLine == pos.line) = true)
    (hfew : ((backTo pos (starEach (e :: es) X.env)).all (fun x => !x.1) && (backToKw pos (keywordEach [] X.env)).all (fun x => x.1.isSome)
      && decide ((e :: es).length + ([] : List Keyword).length + (if ([] : List Keyword).isEmpty then 0 else 1) < 30)) = true)
    (hs : starEach (e :: es) X.env = (false, eval e X.env) :: starEach es X.env) (hplain : (backTo pos (starEach es X.env)).any (·.1) = false) :
    ZE X (.Call (.Attribute a m apos) (e :: es) [] pos) σ H Q := ze_bm f.ok.1 f.ok.2.1 f.ok.2.2 h hbase hfew hline hs hplain
theorem mw_startswith (h : Q (.bl (Txt.startswith z z2)) H) : MtW X "str.startswith" (.str z) [.str z2] H Q := MtR.w mt_startswith ⟨z, z2, rfl, rfl, h⟩
theorem mw_endswith (h : Q (.bl (Txt.endswith z z2)) H) : MtW X "str.endswith" (.str z) [.str z2] H Q := MtR.w mt_endswith ⟨z, z2, rfl, rfl, h⟩
theorem mw_find (h : Q (.int (Txt.find z z2)) H) : MtW X "str.find" (.str z) [.str z2] H Q := MtR.w mt_find ⟨z, z2, rfl, rfl, h⟩
theorem mw_count (h : Q (.int (Txt.count z z2)) H) : MtW X "str.count" (.str z) [.str z2] H Q := MtR.w mt_count ⟨z, z2, rfl, rfl, h⟩
theorem mw_upper (hz : z.length ≤ 5592405) (h : Q (.str (Txt.upper z)) H) : MtW X "str.upper" (.str z) [] H Q := MtR.w mt_upper ⟨z, rfl, rfl, hz, h⟩
theorem mw_lower (hz : z.length ≤ 5592405) (h : Q (.str (Txt.lower z)) H) : MtW X "str.lower" (.str z) [] H Q := MtR.w mt_lower ⟨z, rfl, rfl, hz, h⟩
theorem mw_strip (hz : z.length ≤ sizeLine) (h : Q (.str (Txt.strip z)) H) : MtW X "str.strip" (.str z) [] H Q := MtR.w mt_strip ⟨z, rfl, rfl, hz, h⟩
theorem mw_isdigit (h : Q (.bl (Txt.isdigit z)) H) : MtW X "str.isdigit" (.str z) [] H Q := MtR.w mt_isdigit ⟨z, rfl, rfl, trivial, h⟩
theorem mw_join {ys : List Str} (hp : SqL X.K H p (ys.map V.str) ∨ SqT X.K H p (ys.map V.str)) (hz : (ys.map (·.length)).sum + ys.length * z.length ≤ 16777216) (h : Q (.str (Txt.join z ys)) H) : MtW X "str.join" (.str z) [.ref p] H Q := MtR.w mt_join ⟨z, p, ys, rfl, rfl, hp, hz, h⟩
theorem mw_index {j : Nat} {v : V} (hs : SqL X.K H p xs) (hy : flatV y = true) (hx : xs.all flatV = true) (hj : xs[j]? = some v) (hv : eqV v y = true) (hno : ∀ (m : Nat) (z' : V), m < j → xs[m]? = some z' → eqV z' y = false) (h : Q (.int (j : Nat)) H) :
    MtW X "list.index" (.ref p) [y] H Q := MtR.w mt_index ⟨p, xs, y, j, v, rfl, rfl, hs, hy, hx, hj, hv, hno, h⟩
/-- x.upper().replace(y, z) -/
theorem ze_upRep {y z : Str} {j k : Nat} {c0 c1 upos upos' : Pos} (h : ZE X a σ H fun v H1 => ∃ x, v = .str x ∧ x.length ≤ 5592405 ∧ (Txt.upper x).length + ((Txt.upper x).length + 1) * z.length ≤ 16777216 ∧ Q (.str (Txt.replace (Txt.upper x) y z)) H1) (hyz : (y == z) = false := by decide)
    (hst : starEach [.Constant (.str y) j c0, .Constant (.str z) k c1] X.env = [(false, eval (.Constant (.str y) j c0) X.env), (false, eval (.Constant (.str z) k c1) X.env)] := by rfl)
    (hb1 : attributeBase a "upper" X.env (eval a X.env) = eval a X.env := by rfl) (hl1 : (upos.endLine == upos'.line) = true := by rfl)
    (hbase : attributeBase (.Call (.Attribute a "upper" upos) [] [] upos') "replace" X.env (eval (.Call (.Attribute a "upper" upos) [] [] upos') X.env) = eval (.Call (.Attribute a "upper" upos) [] [] upos') X.env := by rfl) (hline : (apos.endLine == pos.line) = true := by rfl) :
    ZE X (.Call (.Attribute (.Call (.Attribute a "upper" upos) [] [] upos') "replace" apos) [.Constant (.str y) j c0, .Constant (.str z) k c1] [] pos) σ H Q := by
  refine ⟨fun pins s I => ?_⟩
  refine PySem.Call_method2 hbase hst hline (PySem.Call_method0 hb1 hl1 (thn (h.run pins s I) fun v s1 hh => ?_))
  obtain ⟨v', H1, I1, r1, x, e1, hx, hb, q⟩ := hh
  subst e1
  obtain ⟨tx, e2⟩ := r1
  subst e2
  refine PySem.SB.upper (PyProof.Rows.short24 (by have := PyProof.Rows.len_upper x; omega)) ?_
  refine ⟨"str", _, PySem.F.plainAttrs_str, PySem.F.slot_str_replace, PySem.F.type_str_replace, typeIs_str _ _ _, (fun _ e => nomatch e), Calls.callWith_builtin rfl (Calls.evalArgs_plain (Calls.spliced_cons ?_))⟩
  refine Calls.Constant_str (Calls.spliced_cons (Calls.Constant_str (Calls.spliced_nil ?_)))
  exact PySem.SC.replace (by show s1.toks + 1 ≠ 0; omega) (by show s1.toks + 1 + 1 ≠ 0; omega) (by show s1.toks + 1 ≠ s1.toks + 1 + 1; omega) hyz hb fun t' k => ⟨.str (Txt.replace (Txt.upper x) y z), H1, (I1.tok (s1.toks + 1)).tok k, ⟨t', rfl⟩, q⟩
/-- what a written dict has at a text -/
def WGet (K : PySem.W.Frag) (w : World) (p : Addr) (z : Str) (r : Option V) : Prop := ∃ es n u, K.lookup p = some ⟨.type "dict", none, .dict es n, #[]⟩ ∧ PySem.W.KeysLit w.params es.toList ∧ (p == sysModules) = false ∧ PySem.W.nsIn K p z = some u ∧ RelO r u
/-- d.get(k, x) of a written dict -/
theorem ze_getW (h : ZE X a σ H fun x H1 => ∃ p : Addr, x = .ref p ∧ (∃ es n, X.K.lookup p = some ⟨.type "dict", none, .dict es n, #[]⟩) ∧ ZE X b σ H1 fun y H2 => ZE X c σ H2 fun d H3 => ∃ (z : Str) (r : Option V), y = .str z ∧ WGet X.K X.w p z r ∧ Q (r.getD d) H3)
    (hst : starEach [b, c] X.env = [(false, eval b X.env), (false, eval c X.env)] := by rfl) (hbase : attributeBase a "get" X.env (eval a X.env) = eval a X.env := by rfl) (hline : (apos.endLine == pos.line) = true := by rfl) :
    ZE X (.Call (.Attribute a "get" apos) [b, c] [] pos) σ H Q := by
  refine ⟨fun pins s I => ?_⟩
  refine PySem.Call_method2 hbase hst hline (thn (h.run pins s I) fun v s1 hh => ?_)
  obtain ⟨x, H1, I1, r1, p, ex, ⟨es0, n0, hl0⟩, q1⟩ := hh
  subst ex
  obtain rfl : v = Value.ref p := r1
  refine ⟨"dict", _, PySem.F.plainAttrs_dict, PySem.F.slot_dict_get, PySem.F.type_dict_get, ⟨_, I1.kIn _ _ hl0, rfl⟩, (fun b' e => ?_), Calls.callWith_builtin rfl (Calls.evalArgs_plain (Calls.spliced_cons (thn (q1.run pins s1 I1) fun iv s2 hy => ?_)))⟩
  · cases e
    exact ⟨_, I1.kIn _ _ hl0, rfl⟩
  · obtain ⟨y, H2, I2, ry, q2⟩ := hy
    refine Calls.spliced_cons (thn (q2.run pins s2 I2) fun fv s3 hz => Calls.spliced_nil ?_)
    obtain ⟨d, H3, I3, rd, z, r, ey, ⟨es, n, u, hl, hk, low, hf, ro⟩, q⟩ := hz
    subst ey
    obtain ⟨t, rfl⟩ := ry
    have hm := PySem.W.mapOf_K (prog := X.prog) (w := X.w) I3.kIn hl hk
    refine call_meetsIn PySem.F.slot_dict_get hm.typeIs PySem.F.entry_dict_get (PySem.F.args_dict_get_3 _ _ _) (meets_dict_get_default (strKind X.prog X.w) p (strKind_is X.prog X.w z t) low fv) ⟨_, hm, r.getD d, H3, I3.tok _, ?_, q⟩
    rw [PySem.W.find_K hl hf]
    exact ro.getD rd
end
/-! ### comprehensions -/
section
variable {X : Cx} {elt tg iter : Expr} {scope : Scope} {own : List (Str × Nat)} {pos : Pos} {σ : St} {H : Hp} {Q : VK}
/-- within a block of X, whichever its state -/
def Blk (X : Cx) (scope : Scope) (φ : Cx → Prop) : Prop := ∀ (s : Shared) (H : Hp) (C : Addr) (cl : List (Str × Addr)) (fp : List Addr), φ (X.blk s H scope (compEnvC scope cl C X.env) fp)
def gBlk (X : Cx) (scope : Scope) (tg : Expr) : TG := fun v σ H Q => Blk X scope fun Y => ZG Y tg v σ H Q
def eBlk (X : Cx) (scope : Scope) (e : Expr) : TE := fun σ H Q => Blk X scope fun Y => ZE Y e σ H Q
def tBlk (X : Cx) (scope : Scope) (e : Expr) : TT := fun σ H Q => Blk X scope fun Y => ZT Y e σ H Q
theorem pg_blk (s : Shared) (H : Hp) (C : Addr) (cl : List (Str × Addr)) (fp : List Addr) : PG (X.blk s H scope (compEnvC scope cl C X.env) fp) tg (gBlk X scope tg) := ⟨fun pins s' σ H' v u Q I r h => (h s H C cl fp).run pins s' u I r⟩
theorem pe_blk (s : Shared) (H : Hp) (C : Addr) (cl : List (Str × Addr)) (fp : List Addr) : PE (X.blk s H scope (compEnvC scope cl C X.env) fp) elt (eBlk X scope elt) := ⟨fun pins s' σ H' Q I h => (h s H C cl fp).run pins s' I⟩
theorem pt_blk (s : Shared) (H : Hp) (C : Addr) (cl : List (Str × Addr)) (fp : List Addr) : PT (X.blk s H scope (compEnvC scope cl C X.env) fp) elt (tBlk X scope elt) := ⟨fun pins s' σ H' Q I h => (h s H C cl fp).run pins s' I⟩
/-- [elt for tg in iter], iter a list that the block leaves as it is: Pv by the turn -/
theorem ze_lcL (hc : X.calm = true) (hN : X.N.Nodup) (ok : BlkOk X.N X.env.scope scope own)
    (h : ZE X iter σ H fun x H1 => ∃ a xs, x = .ref a ∧ SqL X.K H1 a xs ∧ ∀ D, H1 D = none → ∃ Pv : Nat → Hp → Prop, Pv 0 (upd H1 D (.lst [])) ∧ (∀ i H, i ≤ xs.length → Pv i H → SqL X.K H a xs) ∧
      (∀ i x H, xs[i]? = some x → Pv i H → gBlk X scope tg x (wipe σ (own.map (·.2))) H fun σ2 H2 => wipe σ2 (own.map (·.2)) = wipe σ (own.map (·.2)) ∧ eBlk X scope elt σ2 H2 fun y H4 => ∃ acc, H4 D = some (.lst acc) ∧ acc.length < sizeLine ∧ Pv (i + 1) (upd H4 D (.lst (acc ++ [y])))) ∧
      ∀ H, Pv xs.length H → Q (.ref D) H)
    (hs : ∀ x, foldedSetIterable iter X.env x = pure x := by intro _; rfl) : ZE X (.ListComp elt [⟨tg, iter, [], 0⟩] scope pos) σ H Q := by
  refine (pe_lc (tt := tYes) hc hN (pi_list (tg := tg) pe_we) ok pg_blk (fun _ _ _ _ _ => pts_nil) pe_blk hs).w ?_
  refine ⟨fun pins s I => thn (h.run pins s I) fun u s1 hh => ?_⟩
  obtain ⟨x, H1, I1, r1, a, xs, ex, hl, k⟩ := hh
  refine ⟨x, H1, I1, r1, a, ex, ⟨xs, hl⟩, fun D hD => ?_⟩
  obtain ⟨Pv, h0, hk, hs', hd⟩ := k D hD
  refine lc_list (g := gBlk X scope tg) (te := eBlk X scope elt) (tt := tYes) Pv h0 hk (fun i x H hx hp => ?_) hd
  exact hs' i x _ hx hp
/-- [elt for tg in iter if c] -/
theorem ze_lcLi {c : Expr} (hc : X.calm = true) (hN : X.N.Nodup) (ok : BlkOk X.N X.env.scope scope own)
    (h : ZE X iter σ H fun x H1 => ∃ a xs, x = .ref a ∧ SqL X.K H1 a xs ∧ ∀ D, H1 D = none → ∃ Pv : Nat → Hp → Prop, Pv 0 (upd H1 D (.lst [])) ∧ (∀ i H, i ≤ xs.length → Pv i H → SqL X.K H a xs) ∧
      (∀ i x H, xs[i]? = some x → Pv i H → gBlk X scope tg x (wipe σ (own.map (·.2))) H fun σ2 H2 => wipe σ2 (own.map (·.2)) = wipe σ (own.map (·.2)) ∧ tBlk X scope c σ2 H2 fun b H3 => if b = true then eBlk X scope elt σ2 H3 fun y H4 => ∃ acc, H4 D = some (.lst acc) ∧ acc.length < sizeLine ∧ Pv (i + 1) (upd H4 D (.lst (acc ++ [y]))) else Pv (i + 1) H3) ∧
      ∀ H, Pv xs.length H → Q (.ref D) H)
    (hs : ∀ x, foldedSetIterable iter X.env x = pure x := by intro _; rfl) : ZE X (.ListComp elt [⟨tg, iter, [c], 0⟩] scope pos) σ H Q := by
  refine (pe_lc (tt := tBlk X scope c) hc hN (pi_list (tg := tg) pe_we) ok pg_blk (fun s H C cl fp => pts_one (pt_blk s H C cl fp)) pe_blk hs).w ?_
  refine ⟨fun pins s I => thn (h.run pins s I) fun u s1 hh => ?_⟩
  obtain ⟨x, H1, I1, r1, a, xs, ex, hl, k⟩ := hh
  refine ⟨x, H1, I1, r1, a, ex, ⟨xs, hl⟩, fun D hD => ?_⟩
  obtain ⟨Pv, h0, hk, hs', hd⟩ := k D hD
  exact lc_list (g := gBlk X scope tg) (te := eBlk X scope elt) (tt := tBlk X scope c) Pv h0 hk (fun i x H hx hp => hs' i x _ hx hp) hd
/-- [elt for tg in range(n)] -/
theorem ze_lcR {e : Expr} {p : Pos} {rpos : Pos} (hc : X.calm = true) (hN : X.N.Nodup) (ok : BlkOk X.N X.env.scope scope own) (hm : X.mg "range" = none)
    (h : ZA X [e] σ H fun vs H1 => ∃ j : Int, vs = [.int j] ∧ -(2 ^ 62) ≤ j ∧ j < 2 ^ 62 ∧ ∀ D, H1 D = none → ∃ Pv : Nat → Hp → Prop, Pv 0 (upd H1 D (.lst [])) ∧
      (∀ (i : Nat) H, i < j.toNat → Pv i H → gBlk X scope tg (.int i) (wipe σ (own.map (·.2))) H fun σ2 H2 => wipe σ2 (own.map (·.2)) = wipe σ (own.map (·.2)) ∧ eBlk X scope elt σ2 H2 fun y H4 => ∃ acc, H4 D = some (.lst acc) ∧ acc.length < sizeLine ∧ Pv (i + 1) (upd H4 D (.lst (acc ++ [y])))) ∧
      ∀ H, Pv j.toNat H → Q (.ref D) H)
    (hg : Gl X "range" := by rfl) (hst : starEach [e] X.env = [(false, eval e X.env)] := by rfl) (hs : ∀ x, foldedSetIterable (.Call (.Name "range" p) [e] [] rpos) X.env x = pure x := by intro _; rfl) : ZE X (.ListComp elt [⟨tg, .Call (.Name "range" p) [e] [] rpos, [], 0⟩] scope pos) σ H Q := by
  refine (pe_lc (tt := tYes) hc hN (pi_range1 (tg := tg) hg hm pa_wa hst) ok pg_blk (fun _ _ _ _ _ => pts_nil) pe_blk hs).w ?_
  refine ⟨fun ps pins s I => thn (h.run ps pins s I) fun u s1 hh => ?_⟩
  obtain ⟨vs, H1, I1, r1, j, ex, l1, l2, k⟩ := hh
  refine ⟨vs, H1, I1, r1, j, ex, l1, l2, fun D hD => ?_⟩
  obtain ⟨Pv, h0, hs', hd⟩ := k D hD
  exact lc_range (lo := 0) (g := gBlk X scope tg) (te := eBlk X scope elt) (tt := tYes) Pv h0 (fun i H hx hp => by
    have := hs' i _ hx hp
    rw [Int.zero_add]
    exact this) hd
end
/-! ### loops -/
section
variable {X : Cx} {tg a e b : Expr} {body : List Stmt} {σ : St} {H : Hp} {nx bk ct : NX} {rt : VK} {pos p rpos : Pos}
/-- for tg in range(n): Iv by the turn; `break` goes to nx -/
theorem zs_forR (hp : PassesOwn (model X.prog X.w) X.A X.env X.xe) (hc : X.calm = true) (hm : X.mg "range" = none)
    (h : ZA X [e] σ H fun vs H1 => ∃ j : Int, vs = [.int j] ∧ -(2 ^ 62) ≤ j ∧ j < 2 ^ 62 ∧ ∃ Iv : Nat → St → Hp → Prop, Iv 0 σ H1 ∧
      (∀ (i : Nat) σ1 H2, (i : Int) < j → Iv i σ1 H2 → ZG X tg (.int i) σ1 H2 fun σ2 H3 => ZSs X body (Iv (i + 1)) rt nx (Iv (i + 1)) σ2 H3) ∧ ∀ σ1 H2, Iv j.toNat σ1 H2 → nx σ1 H2)
    (hg : Gl X "range" := by rfl) (hst : starEach [e] X.env = [(false, eval e X.env)] := by rfl) (hs : ∀ x, foldedSetIterable (.Call (.Name "range" p) [e] [] rpos) X.env x = pure x := by intro _; rfl) :
    ZS X (.For tg (.Call (.Name "range" p) [e] [] rpos) body [] pos) nx rt bk ct σ H := by
  refine zs_for hp hc (zi_range1 hm ?_ hg hst) hs
  refine ⟨fun ps pins s I => thn (h.run ps pins s I) fun u s1 hh => ?_⟩
  obtain ⟨vs, H1, I1, r1, j, ex, l1, l2, Iv, i0, st, fi⟩ := hh
  refine ⟨vs, H1, I1, r1, j, ex, l1, l2, fun i m σ' H' => m = j.toNat - i ∧ i ≤ j.toNat ∧ Iv i σ' H', ⟨_, rfl, Nat.zero_le _, i0⟩, ?_⟩
  rintro i m σ' H' ⟨rfl, hi, iv⟩
  by_cases hlt : i < j.toNat
  · refine .inr ⟨hlt, Iv (i + 1), fun σ2 H2 q => ⟨_, by omega, rfl, hlt, q⟩, fun x H2 y => ?_⟩
    obtain ⟨rfl, rfl⟩ := y
    have := st i σ' _ (by omega) iv
    simpa using this
  · have e : i = j.toNat := by omega
    subst e
    exact .inl ⟨Nat.le_refl _, fi _ _ iv⟩
/-- for tg in range(lo, hi) -/
theorem zs_forR2 (hp : PassesOwn (model X.prog X.w) X.A X.env X.xe) (hc : X.calm = true) (hm : X.mg "range" = none)
    (h : ZA X [e, b] σ H fun vs H1 => ∃ lo j : Int, vs = [.int lo, .int j] ∧ (-(2 ^ 62) ≤ lo ∧ lo < 2 ^ 62 ∧ -(2 ^ 62) ≤ j ∧ j < 2 ^ 62) ∧ ∃ Iv : Nat → St → Hp → Prop, Iv 0 σ H1 ∧
      (∀ (i : Nat) σ1 H2, lo + (i : Int) < j → Iv i σ1 H2 → ZG X tg (.int (lo + i)) σ1 H2 fun σ2 H3 => ZSs X body (Iv (i + 1)) rt nx (Iv (i + 1)) σ2 H3) ∧ ∀ σ1 H2, Iv (j - lo).toNat σ1 H2 → nx σ1 H2)
    (hg : Gl X "range" := by rfl) (hst : starEach [e, b] X.env = [(false, eval e X.env), (false, eval b X.env)] := by rfl) (hst2 : starEach [b] X.env = [(false, eval b X.env)] := by rfl) (hs : ∀ x, foldedSetIterable (.Call (.Name "range" p) [e, b] [] rpos) X.env x = pure x := by intro _; rfl) :
    ZS X (.For tg (.Call (.Name "range" p) [e, b] [] rpos) body [] pos) nx rt bk ct σ H := by
  refine zs_for hp hc (zi_range2 hm ?_ hg hst hst2) hs
  refine ⟨fun ps pins s I => thn (h.run ps pins s I) fun u s1 hh => ?_⟩
  obtain ⟨vs, H1, I1, r1, lo, j, ex, l1, Iv, i0, st, fi⟩ := hh
  refine ⟨vs, H1, I1, r1, lo, j, ex, l1, fun i m σ' H' => m = (j - lo).toNat - i ∧ i ≤ (j - lo).toNat ∧ Iv i σ' H', ⟨_, rfl, Nat.zero_le _, i0⟩, ?_⟩
  rintro i m σ' H' ⟨rfl, hi, iv⟩
  by_cases hlt : i < (j - lo).toNat
  · refine .inr ⟨hlt, Iv (i + 1), fun σ2 H2 q => ⟨_, by omega, rfl, hlt, q⟩, fun x H2 y => ?_⟩
    obtain ⟨rfl, rfl⟩ := y
    exact st i σ' _ (by omega) iv
  · have e : i = (j - lo).toNat := by omega
    subst e
    exact .inl ⟨Nat.le_refl _, fi _ _ iv⟩
/-- for tg in a list that the turns leave as it is -/
theorem zs_forL (hp : PassesOwn (model X.prog X.w) X.A X.env X.xe) (hc : X.calm = true)
    (h : ZE X a σ H fun x H1 => ∃ p xs, x = .ref p ∧ SqL X.K H1 p xs ∧ ∃ Iv : Nat → St → Hp → Prop, Iv 0 σ H1 ∧ (∀ i σ1 H2, i ≤ xs.length → Iv i σ1 H2 → SqL X.K H2 p xs) ∧
      (∀ i y σ1 H2, xs[i]? = some y → Iv i σ1 H2 → ZG X tg y σ1 H2 fun σ2 H3 => ZSs X body (Iv (i + 1)) rt nx (Iv (i + 1)) σ2 H3) ∧ ∀ σ1 H2, Iv xs.length σ1 H2 → nx σ1 H2)
    (hs : ∀ x, foldedSetIterable a X.env x = pure x := by intro _; rfl) : ZS X (.For tg a body [] pos) nx rt bk ct σ H := by
  refine zs_for hp hc (zi_list ?_) hs
  refine ⟨fun pins s I => thn (h.run pins s I) fun u s1 hh => ?_⟩
  obtain ⟨x, H1, I1, r1, q, xs, ex, hl, Iv, i0, kp, st, fi⟩ := hh
  refine ⟨x, H1, I1, r1, q, ex, ⟨xs, hl⟩, fun i m σ' H' => m = xs.length - i ∧ i ≤ xs.length ∧ Iv i σ' H', ⟨_, rfl, Nat.zero_le _, i0⟩, ?_⟩
  rintro i m σ' H' ⟨rfl, hi, iv⟩
  have hl' := kp i σ' H' hi iv
  by_cases hlt : i < xs.length
  · refine .inr ⟨⟨xs, xs[i], hl', by simp [hlt]⟩, Iv (i + 1), fun σ2 H2 q => ⟨_, by omega, rfl, hlt, q⟩, fun y H2 yy => ?_⟩
    obtain ⟨e, yy⟩ := yy
    subst e
    exact st i y σ' _ (yy xs hl') iv
  · have e : i = xs.length := by omega
    subst e
    exact .inl ⟨⟨xs, hl', Nat.le_refl _⟩, fi _ _ iv⟩
/-- for tg in a tuple -/
theorem zs_forT (hp : PassesOwn (model X.prog X.w) X.A X.env X.xe) (hc : X.calm = true)
    (h : ZE X a σ H fun x H1 => ∃ p xs, x = .ref p ∧ SqT X.K H1 p xs ∧ ∃ Iv : Nat → St → Hp → Prop, Iv 0 σ H1 ∧ (∀ i σ1 H2, i ≤ xs.length → Iv i σ1 H2 → SqT X.K H2 p xs) ∧
      (∀ i y σ1 H2, xs[i]? = some y → Iv i σ1 H2 → ZG X tg y σ1 H2 fun σ2 H3 => ZSs X body (Iv (i + 1)) rt nx (Iv (i + 1)) σ2 H3) ∧ ∀ σ1 H2, Iv xs.length σ1 H2 → nx σ1 H2)
    (hs : ∀ x, foldedSetIterable a X.env x = pure x := by intro _; rfl) : ZS X (.For tg a body [] pos) nx rt bk ct σ H := by
  refine zs_for hp hc (zi_tup ?_) hs
  refine ⟨fun pins s I => thn (h.run pins s I) fun u s1 hh => ?_⟩
  obtain ⟨x, H1, I1, r1, q, xs, ex, hl, Iv, i0, kp, st, fi⟩ := hh
  refine ⟨x, H1, I1, r1, q, ex, ⟨xs, hl⟩, fun i m σ' H' => m = xs.length - i ∧ i ≤ xs.length ∧ Iv i σ' H', ⟨_, rfl, Nat.zero_le _, i0⟩, ?_⟩
  rintro i m σ' H' ⟨rfl, hi, iv⟩
  have hl' := kp i σ' H' hi iv
  by_cases hlt : i < xs.length
  · refine .inr ⟨⟨xs, xs[i], hl', by simp [hlt]⟩, Iv (i + 1), fun σ2 H2 q => ⟨_, by omega, rfl, hlt, q⟩, fun y H2 yy => ?_⟩
    obtain ⟨e, yy⟩ := yy
    subst e
    exact st i y σ' _ (yy xs hl') iv
  · have e : i = xs.length := by omega
    subst e
    exact .inl ⟨⟨xs, hl', Nat.le_refl _⟩, fi _ _ iv⟩
/-- while c: Iv with a measure -/
theorem zs_whl {c : Expr} (hp : PassesOwn (model X.prog X.w) X.A X.env X.xe) (Iv : Nat → St → Hp → Prop) (m0 : Nat) (h0 : Iv m0 σ H)
    (st : ∀ m σ1 H1, Iv m σ1 H1 → ZT X c σ1 H1 fun k H2 => if k = true then ZSs X body (fun σ2 H3 => ∃ m', m' < m ∧ Iv m' σ2 H3) rt nx (fun σ2 H3 => ∃ m', m' < m ∧ Iv m' σ2 H3) σ1 H2 else nx σ1 H2) : ZS X (.While c body [] pos) nx rt bk ct σ H :=
  zs_while hp ⟨Iv, ⟨m0, h0⟩, fun m σ1 H1 iv => ⟨fun pins s I => wpAny_mono ((st m σ1 H1 iv).run pins s I) (fun k s1 hh => by
    obtain ⟨H2, I2, q⟩ := hh
    refine ⟨H2, I2, ?_⟩
    cases k
    · exact q
    · exact ⟨_, fun _ _ z => z, q⟩) fun _ _ z => z⟩⟩
end
/-! ### calls within an except suite -/
structure CalH (P : Program) (w : World) (K : PySem.W.Frag) (mg : Str → Option Value) (base : Heap) (k : Nat) (x : Str) (sp : Sp) : Prop where
  ex : ∃ (f : Addr) (fd : FuncData) (ps : List Str), L2H.FnH P w K mg base (L2N.CX P w) k f fd ps sp ∧ mg x = some (.ref f) ∧ PySem.W.keepIn K (.ref f) = true ∧ Binds K fd ps []
section
variable {X : Cx} {e a : Expr} {es : List Expr} {σ : St} {H : Hp} {Q : VK} {p pos apos : Pos}
theorem ze_callH {x : Str} {k j : Nat} {sp : Sp} (c : CalH X.prog X.w X.K X.mg X.base k x sp) (hr : L2H.RoomH j X.A) (hc : L2H.HotC X) (hk : k ≤ j) (h : ZA X (e :: es) σ H fun vs H1 => sp vs H1 Q fun cls d H' => XW X cls d σ H') (hg : Gl X x)
    (hdb : (x == ("__debug__" : Str)) = false) (he : starEach (e :: es) X.env = (false, eval e X.env) :: starEach es X.env) (hpl : (backTo pos (starEach es X.env)).any (·.1) = false) : ZE X (.Call (.Name x p) (e :: es) [] pos) σ H Q := by
  obtain ⟨f, fd, ps, F, gm, kp, hb⟩ := c.ex
  refine (L2H.pe_callH (E := fun σ cls d H' => XW X cls d σ H') F (hr.mono hk) hc hg gm kp hb (fun σ pins H s e' s' I hq => takes_xw e' s' (L2N.XE.of_call I (fun cls d H' w => w) hq)) pa_wa hdb he hpl).w h
end
theorem FunH.ok {P : Program} {w : World} {K : PySem.W.Frag} {mg : Str → Option Value} {base : Heap} {x qual : Str} {st : Stmt} {f : Addr} {fd : FuncData} {N ps : List Str} {k : Nat} {sp : Sp} (F : Fun K x qual st f fd) (S : FnScope N ps (defScope st)) (len : ∀ vs H Q E, sp vs H Q E → vs.length = ps.length)
    (hbody : ∀ (cdv : Value) (A : Around) (outer : List Env) (s : Shared) (H : Hp) (vs : List V) (Q : VK) (E : XK) (p : Addr × Obj), L2H.Hot1 A p → L2H.RoomH k (A.deeper (envOfC qual (defScope st) s.heap.objs.size f cdv)) → sp vs H Q E →
      ZSs (L2H.cxH (L2N.CX P w) P w K mg base N qual (defScope st) f cdv A outer s H E p) (defBody st) (fun _ H' => Q .non H') Q (fun _ _ => False) (fun _ _ => False) (start N vs) H) : L2H.FnH P w K mg base (L2N.CX P w) (k + 1) f fd ps sp := by
  obtain ⟨oc, od, kV, doc, pm, an, cdv, ct, osl, rfl, lk, hcd⟩ := F.ex
  exact L2H.fn_ofH lk hcd S len fun A outer s H vs Q E p hot hr hsp => ⟨_, pss_wss, hbody cdv A outer s H vs Q E p hot hr hsp⟩
/-! ### raise, in a step -/
structure XCls (P : Program) (K : PySem.W.Frag) (mg : Str → Option Value) (x : Str) (C : Addr) (nms : List Str) : Prop where
  T : PySem.LX.ExcT K C
  gC : mg x = some (.ref C)
  ini : ∃ fI, PySem.W.findIn K (.ref C) "__init__" = some (some (.ref fI)) ∧ PySem.W.typeIn K (.ref fI) = some (.type "function") ∧ PySem.LX.InitRuns P K mg C fI nms
theorem s_raise {X : Cx} {e : Expr} {es : List Expr} {σ : St} {H : Hp} {nx bk ct : NX} {rt : VK} {p pos pos2 : Pos} {P : Program} {w : World} {K : PySem.W.Frag} {mg : Str → Option Value} {base : Heap} {A : Around} {x : Str} {C : Addr} {nms : List Str} {j : Nat} (c : XCls P K mg x C nms) (hr : Room j A) (hX : XIs X P w K mg base A) (hc : X.calm = true)
    (h : ZA X (e :: es) σ H fun vs H1 => vs.length = nms.length ∧ nms.length ≤ 10 ∧ ∀ d, H1 d = none → XW X (.ref C) (some d) σ (upd H1 d (.xd (nms.zip vs).reverse))) (hg : Gl X x)
    (hdb : (x == ("__debug__" : Str)) = false) (he : starEach (e :: es) X.env = (false, eval e X.env) :: starEach es X.env) (hpl : (backTo pos (starEach es X.env)).any (·.1) = false) : ZS X (.Raise (some (.Call (.Name x p) (e :: es) [] pos)) none pos2) nx rt bk ct σ H := by
  obtain ⟨rfl, rfl, rfl, rfl, rfl, rfl⟩ := hX
  obtain ⟨fI, a, b, ir⟩ := c.ini
  exact zs_raise (c := e) hc c.T a b ir c.gC hr h hg hdb he hpl
end L2
namespace L2
open PySem PySem.Spec PyProof.Rows
/-! ### equal data, by depth -/
inductive DEq (K : PySem.W.Frag) (H : Hp) : Nat → V → V → Prop
  | non {n : Nat} : DEq K H n .non .non
  | bl {n : Nat} (b : Bool) : DEq K H n (.bl b) (.bl b)
  | int {n : Nat} (i : Int) : DEq K H n (.int i) (.int i)
  | str {n : Nat} (z : Str) : DEq K H n (.str z) (.str z)
  | lst {n : Nat} {p q : Addr} {xs ys : List V} (hx : SqL K H p xs) (hy : SqL K H q ys) (hz : xs.length ≤ sizeLine) (hl : xs.length = ys.length) (h : ∀ (i : Nat) (x y : V), xs[i]? = some x → ys[i]? = some y → DEq K H n x y) : DEq K H (n + 1) (.ref p) (.ref q)
  | tup {n : Nat} {p q : Addr} {xs ys : List V} (hx : SqT K H p xs) (hy : SqT K H q ys) (hz : xs.length ≤ sizeLine) (hl : xs.length = ys.length) (h : ∀ (i : Nat) (x y : V), xs[i]? = some x → ys[i]? = some y → DEq K H n x y) : DEq K H (n + 1) (.ref p) (.ref q)
theorem DEq.self {K : PySem.W.Frag} {H : Hp} {n : Nat} {x : V} (h : flatV x = true) (h2 : ∀ b, x ≠ .byt b) (h3 : ∀ b, x ≠ .flt b) (h4 : ∀ a, x ≠ .ref a) : DEq K H n x x := by
  cases x with
  | non => exact .non
  | bl b => exact .bl b
  | int i => exact .int i
  | str z => exact .str z
  | byt b => exact absurd rfl (h2 b)
  | flt b => exact absurd rfl (h3 b)
  | ref a => exact absurd rfl (h4 a)
  | ty t => exact absurd h (by simp [flatV])
/-- the plain data: no object -/
inductive Sc : V → Prop
  | non : Sc .non | bl (b : Bool) : Sc (.bl b) | int (i : Int) : Sc (.int i) | str (z : Str) : Sc (.str z)
theorem Sc.eq {K : PySem.W.Frag} {H : Hp} {n : Nat} {x : V} (h : Sc x) : DEq K H n x x := by
  cases h with
  | non => exact .non
  | bl b => exact .bl b
  | int i => exact .int i
  | str z => exact .str z
theorem DEq.lstS {K : PySem.W.Frag} {H : Hp} {n : Nat} {p q : Addr} {xs : List V} (hx : SqL K H p xs) (hy : SqL K H q xs) (hz : xs.length ≤ sizeLine) (h : ∀ x ∈ xs, Sc x) : DEq K H (n + 1) (.ref p) (.ref q) :=
  .lst hx hy hz rfl fun i x y a b => by rw [a] at b; cases b; exact (h x (List.mem_of_getElem? a)).eq
theorem DEq.tupS {K : PySem.W.Frag} {H : Hp} {n : Nat} {p q : Addr} {xs : List V} (hx : SqT K H p xs) (hy : SqT K H q xs) (hz : xs.length ≤ sizeLine) (h : ∀ x ∈ xs, Sc x) : DEq K H (n + 1) (.ref p) (.ref q) :=
  .tup hx hy hz rfl fun i x y a b => by rw [a] at b; cases b; exact (h x (List.mem_of_getElem? a)).eq
def spEq (K : PySem.W.Frag) (n : Nat) : Sp := fun vs H Q _ => ∃ x y, vs = [x, y] ∧ DEq K H n x y ∧ Q (.bl true) H
def spEqS : Sp := fun vs H Q _ => ∃ x, vs = [x, x] ∧ Sc x ∧ Q (.bl true) H
theorem equal_do {K : PySem.W.Frag} {n : Nat} {x y : V} {H : Hp} {Q : VK} {E : XK} (h : DEq K H n x y) (q : Q (.bl true) H) : spEq K n [x, y] H Q E := ⟨x, y, rfl, h, q⟩
theorem equalS_do {x : V} {H : Hp} {Q : VK} {E : XK} (h : Sc x) (q : Q (.bl true) H) : spEqS [x, x] H Q E := ⟨x, rfl, h, q⟩
theorem TyX.ofL {K : PySem.W.Frag} {H : Hp} {p : Addr} {xs : List V} (h : SqL K H p xs) : TyX K H (.ref p) (.type "list") := by
  rcases h with (h | ⟨o, h⟩) | ⟨o, _, _, h, c, _⟩
  · exact .base (.lst h)
  · exact .base (.frz h)
  · exact .kList h c
theorem TyX.ofT {K : PySem.W.Frag} {H : Hp} {p : Addr} {xs : List V} (h : SqT K H p xs) : TyX K H (.ref p) (.type "tuple") := by
  rcases h with (h | ⟨o, h⟩) | ⟨o, _, _, h, c, _⟩
  · exact .base (.tup h)
  · exact .fTuple h
  · exact .kTuple h c
theorem inV_str {z : Str} : ∀ {l : List Str}, inV (.str z) (l.map V.str) = decide (z ∈ l)
  | [] => rfl
  | a :: l => by
    have ih := inV_str (z := z) (l := l)
    unfold inV at ih ⊢
    rw [List.map_cons, List.any_cons, ih]
    by_cases e : a = z
    · subst e; simp [eqV]
    · have e2 : ¬ z = a := fun x => e x.symm
      simp [eqV, e, e2]
end L2
namespace L2
open PySem PySem.Spec PyProof.Rows
theorem idxOf_before {l : List Str} {z : Str} : ∀ {m : Nat} {y : Str}, m < l.idxOf z → l[m]? = some y → y ≠ z := by
  induction l with
  | nil => intro m y h h2; simp at h2
  | cons a l ih =>
    intro m y h h2
    rw [List.idxOf_cons] at h
    by_cases e : a = z
    · subst e; simp at h
    · have e2 : (a == z) = false := by simpa using e
      rw [e2] at h
      cases m with
      | zero => simp at h2; subst h2; exact e
      | succ m =>
        simp at h2
        exact ih (by simp at h; omega) h2
theorem mw_indexS {X : Cx} {H : Hp} {Q : VK} {p : Addr} {l : List Str} {z : Str} (hs : SqL X.K H p (l.map V.str)) (hz : z ∈ l) (h : Q (.int (l.idxOf z : Nat)) H) : MtW X "list.index" (.ref p) [.str z] H Q := by
  have hlt : l.idxOf z < l.length := List.idxOf_lt_length_of_mem hz
  have e : l[l.idxOf z]? = some z := by rw [List.getElem?_eq_getElem hlt, List.getElem_idxOf]
  refine mw_index (j := l.idxOf z) (v := .str z) hs rfl (by simp [List.all_map, flatV]) (by rw [List.getElem?_map, e]; rfl) (by simp [eqV]) (fun m z' hm hz' => ?_) h
  obtain ⟨y, hy, rfl⟩ := map_get hz'
  have := idxOf_before hm hy
  simp [eqV, this]
end L2
namespace L2
open PySem PySem.Spec PyProof.Rows
theorem draw_do {p : Addr} {many : Int} {H : Hp} {Q : VK} {E : XK} (h1 : 0 < many) (h2 : many < 1073741824) (h3 : Src H p) (h : ∀ v, 0 ≤ v → v < many → Q (.int v) H) : spDraw [.ref p, .int many] H Q E := ⟨p, many, rfl, h1, h2, h3, h⟩
theorem cutS_len (z : Str) (lo hi : Option Int) : (cutS z lo hi).length ≤ z.length := by
  have e : z.length = z.cps.toList.length := rfl
  rw [e]
  show (List.toArray _).size ≤ _
  rw [List.size_toArray, List.length_take, List.length_drop]
  omega
theorem str_app_len (a b : Str) : (a ++ b).length = a.length + b.length := by
  show (a.cps ++ b.cps).size = _
  rw [Array.size_append]; rfl
end L2
namespace L2
open PySem PySem.Spec PyProof.Rows
/-! ### within an except suite -/
section
variable {X : Cx} {a : Addr} {oe : Obj} {cls : Value} {d : Option Addr} {pn : List (Addr × Obj)} {H : Hp} {Q : VK} {σ : St}
theorem hot_suite (hz : L2N.Zn cls d oe) (hf : ∃ vs, oe.data = .fields vs) : L2H.HotC (X.suite a ((a, oe) :: pn)) := by
  obtain ⟨vs, e⟩ := hf
  exact ⟨(a, oe), ⟨rfl, vs, e, hz.2.2 vs e⟩, List.mem_cons_self⟩
theorem cw_isx {D : Addr} {c : V} {cv : Value} {b : Bool} (hz : L2N.Zn cls d oe) (hf : ∃ vs, oe.data = .fields vs) (hc : cls = .ref D) (T : PySem.LX.ExcT X.K D) (hd : DOk H d) (hv : ClsV c cv) (hk : PySem.W.kitOne X.K (.ref D) cv = some b) (q : Q (.bl b) H) :
    CallW (X.suite a ((a, oe) :: pn)) (.builtin "isinstance") [.ref a, c] H Q := (call_isX hz.zc hf).w ⟨D, c, cv, b, hc, T, hd, rfl, fun _ r => hv.eq r, hk, q⟩
theorem aw_xd {C dd : Addr} {fs : List (Str × V)} {v : V} {n : Str} (hz : L2N.Zn cls d oe) (hf : ∃ vs, oe.data = .fields vs) (hc : cls = .ref C) (hd : d = some dd) (T : PySem.LX.ExcT X.K C) (hno : PySem.W.findIn X.K (.ref C) n = some none) (ea : H dd = some (.xd fs)) (l : fs.lookup n = some v) (q : Q v H) :
    AtW (X.suite a ((a, oe) :: pn)) n (.ref a) H Q := by
  refine ⟨fun pins s1 σ u I1 rx => ?_⟩
  obtain rfl : u = Value.ref a := rx
  subst hc
  subst hd
  obtain ⟨ha, _⟩ := I1.pin (a, oe) (List.mem_append_left _ List.mem_cons_self)
  obtain ⟨vs, hdt⟩ := hf
  have hx : ObjOk X.prog X.w H s1.heap dd (.xd fs) := I1.hok dd _ ea
  obtain ⟨mA, hns, hr⟩ := hx
  obtain ⟨od, ho, hl⟩ := lookIn_ns hns
  obtain ⟨u, hu, ru⟩ := RelO.some_of (v := v) (o := mA n) (by rw [← l]; exact hr n)
  have J : PySem.W.InstAt s1.heap a oe C (some od) := ⟨ha, hz.1, by unfold PySem.W.notCls; rw [hdt] <;> rfl, by rw [hz.2.1]; exact ho⟩
  exact HandSPX.exc_get I1.kIn J T.ga T.gg T.ox.exC (PySem.W.findObj_own T.hd hno rfl (by rw [hl, hu])) (handed_of ru) ⟨v, H, I1.tok _, ru, q⟩
theorem s_callH {P : Program} {w : World} {K : PySem.W.Frag} {mg : Str → Option Value} {base : Heap} {A : Around} {x : Str} {k j : Nat} {sp : Sp} {e : Expr} {es : List Expr} {p pos : Pos} (c : CalH P w K mg base k x sp) (hz : L2N.Zn cls d oe) (hf : ∃ vs, oe.data = .fields vs) (hr : Room j A) (hk : k ≤ j) (hX : XIs X P w K mg base A)
    (h : ZA (X.suite a ((a, oe) :: pn)) (e :: es) σ H fun vs H1 => sp vs H1 Q fun cls d H' => XW (X.suite a ((a, oe) :: pn)) cls d σ H') (hg : Gl X x)
    (hdb : (x == ("__debug__" : Str)) = false) (he : starEach (e :: es) X.env = (false, eval e X.env) :: starEach es X.env) (hpl : (backTo pos (starEach es X.env)).any (·.1) = false) : ZE (X.suite a ((a, oe) :: pn)) (.Call (.Name x p) (e :: es) [] pos) σ H Q := by
  obtain ⟨rfl, rfl, rfl, rfl, rfl, rfl⟩ := hX
  exact ze_callH (X := X.suite a ((a, oe) :: pn)) c (j := j) (show L2H.RoomH j (X.A.mark (some (.ref a))) from ⟨hr.dp, hr.un⟩) (hot_suite hz hf) hk h hg hdb he hpl
theorem s_try {P : Program} {w : World} {K : PySem.W.Frag} {mg : Str → Option Value} {base : Heap} {A : Around} {x n : Str} {CL : Addr} {i : Nat} {body suite : List Stmt} {b₀ : Stmt} {np pos pos' : Pos} {N : List Str} {M : Nat} {sc : Scope} {nx bk ct : NX} {rt : VK} (gC : mg x = some (.ref CL)) (S : NOk N M sc) (hX : XIs X P w K mg base A) (hN : X.N = N ∧ X.env.scope = sc) (hi : N[i]? = some n)
    (hs : X.stack = X.env :: X.outer) (hf : X.env.frame = some X.env.locals) (hln : X.env.kindOf n = some .local) (hg : Gl X x) (hdb : (x == ("__debug__" : Str)) = false)
    (h : ∀ (pn : List (Addr × Obj)) (xe : Value → Shared → Prop), (∀ cls d σ H, (∃ b, PySem.W.exmOne K cls (.ref CL) = some b ∧ (b = true → ∀ a, H a = none → ∀ (oe : Obj) (pn : List (Addr × Obj)), L2N.Zn cls d oe → (∃ vs, oe.data = .fields vs) → ZSs (X.suite a ((a, oe) :: pn)) (b₀ :: suite) (fun σ' H' => nx (σ'.set i none) H') rt (fun σ' H' => bk (σ'.set i none) H') (fun σ' H' => ct (σ'.set i none) H') (σ.set i (some (.ref a))) H) ∧ (b = false → XW X cls d σ H)) → XW (X.tr pn xe) cls d σ H) →
      PassesOwn (model X.prog X.w) X.A X.env xe → ZSs (X.tr pn xe) body nx rt bk ct σ H) :
    ZS X (.Try body [.ExceptHandler (some (.Name x np)) (some n) (b₀ :: suite) pos'] [] [] pos) nx rt bk ct σ H := by
  obtain ⟨rfl, rfl, rfl, rfl, rfl, rfl⟩ := hX
  obtain ⟨rfl, rfl⟩ := hN
  refine zs_try_as hs hf S.nd hi hln ⟨hg, hdb, .inl gC⟩ fun pn xe tk hp => h pn xe (fun cls d σ H hh => xw_of tk ?_) hp
  obtain ⟨b, h1, h2, h3⟩ := hh
  exact ⟨b, h1, fun hb a na oe pn hz hf => h2 hb a na oe pn hz hf, h3⟩
end
end L2
namespace L2
open PySem PySem.Spec PyProof.Rows
theorem src_do {K : PySem.W.Frag} {a : Addr} {ns : List Int} {H : Hp} {Q : VK} {E : XK} (h1 : SqL K H a (ns.map V.int)) (h2 : ns.length ≤ 1000) (h : ∀ p H', NoA H p → Same H H' → Src H' p → Q (.ref p) H') : spSrc K [.ref a] H Q E := ⟨a, ns, rfl, h1, h2, fun p H' n => h p H' ⟨n⟩⟩
theorem mem_cutV {xs : List V} {lo hi : Option Int} {y : V} (h : y ∈ cutV xs lo hi) : y ∈ xs := by
  unfold cutV at h
  exact List.mem_of_mem_drop (List.mem_of_mem_take h)
/-- the law's promise -/
def spLaw (K : PySem.W.Frag) : Sp := fun vs H Q _ => ∃ (a : Addr) (ns : List Int), vs = [.ref a] ∧ SqL K H a (ns.map V.int) ∧ ns.length ≤ 63 ∧ ∀ H', Q (.bl true) H'
end L2
namespace L2
open PySem PySem.Spec PyProof.Rows
theorem Sc.nil : ∀ x ∈ ([] : List V), Sc x := fun x h => by cases h
theorem Sc.cons {a : V} {l : List V} (h : Sc a) (t : ∀ x ∈ l, Sc x) : ∀ x ∈ a :: l, Sc x := fun x hx => by
  rcases List.mem_cons.mp hx with rfl | hx
  · exact h
  · exact t x hx
theorem Sc.app {a l : List V} (h : ∀ x ∈ a, Sc x) (t : ∀ x ∈ l, Sc x) : ∀ x ∈ a ++ l, Sc x := fun x hx => (List.mem_append.mp hx).elim (h x) (t x)
theorem Sc.mapS {l : List Str} : ∀ x ∈ l.map V.str, Sc x := fun x hx => by
  obtain ⟨m, _, rfl⟩ := List.mem_map.mp hx
  exact .str m
theorem Sc.mapI {l : List Int} : ∀ x ∈ l.map V.int, Sc x := fun x hx => by
  obtain ⟨m, _, rfl⟩ := List.mem_map.mp hx
  exact .int m
end L2
namespace L2
open PySem PySem.Spec PyProof.Rows
theorem Cal.of {P : Program} {w : World} {K : PySem.W.Frag} {mg : Str → Option Value} {base : Heap} {k : Nat} {x : Str} {f : Addr} {fd : FuncData} {ps : List Str} {sp : Sp} (F : FnOk P w K mg base (L2N.CX P w) k f fd ps sp) (g : mg x = some (.ref f)) (kp : PySem.W.keepIn K (.ref f) = true) (b : Binds K fd ps []) : Cal P w K mg base k x sp :=
  ⟨f, fd, ps, [], [], sp, F, g, kp, b, .nil, fun vs H Q E h => by rw [List.append_nil]; exact h⟩
theorem CalH.of {P : Program} {w : World} {K : PySem.W.Frag} {mg : Str → Option Value} {base : Heap} {k : Nat} {x : Str} {f : Addr} {fd : FuncData} {ps : List Str} {sp : Sp} (F : L2H.FnH P w K mg base (L2N.CX P w) k f fd ps sp) (g : mg x = some (.ref f)) (kp : PySem.W.keepIn K (.ref f) = true) (b : Binds K fd ps []) : CalH P w K mg base k x sp :=
  ⟨f, fd, ps, F, g, kp, b⟩
end L2

/-! Still more rules: where a token is given out, blocks, ranges. -/
namespace L2
open PySem PySem.Spec PyProof.Rows
section
variable {X : Cx} {e a b c : Expr} {es : List Expr} {σ σ' : St} {H : Hp} {Q : VK} {pos apos p : Pos}
/-! ### one token is given out -/
structure ZE1 (X : Cx) (e : Expr) (σ : St) (H : Hp) (Q : VK) : Prop where
  run : ∀ pins s, 1 ≤ s.toks → Inv X pins σ H s → wpAny (model X.prog X.w) X.A (eval e X.env) (EP X pins σ Q) X.xe s
structure ZEs (X : Cx) (e : Expr) (σ : St) (H : Hp) (Q : VK) : Prop where
  run : ∀ pins s, Inv X pins σ H s → wpAny (model X.prog X.w) X.A (eval e X.env) (fun v s' => 1 ≤ s'.toks ∧ EP X pins σ Q v s') X.xe s
structure ZA1 (X : Cx) (es : List Expr) (σ : St) (H : Hp) (Q : List V → Hp → Prop) : Prop where
  run : ∀ pos pins s, 1 ≤ s.toks → Inv X pins σ H s → wpAny (model X.prog X.w) X.A (spliced (backTo pos (starEach es X.env))) (AP X pins σ Q) X.xe s
theorem ze1_of (h : ZE X e σ H Q) : ZE1 X e σ H Q := ⟨fun pins s _ I => h.run pins s I⟩
theorem za1_nil {Q : List V → Hp → Prop} (q : Q [] H) : ZA1 X [] σ H Q := ⟨fun pos pins s _ I => (za_nil q).run pos pins s I⟩
theorem za1_cons {Q : List V → Hp → Prop} (h : ZE1 X e σ H fun x H1 => ZA1 X es σ H1 fun xs H2 => Q (x :: xs) H2) (hs : starEach (e :: es) X.env = (false, eval e X.env) :: starEach es X.env) : ZA1 X (e :: es) σ H Q := by
  refine ⟨fun pos pins s h0 I => ?_⟩
  rw [hs]
  show wpAny _ _ (spliced ((false, eval e X.env) :: backTo pos (starEach es X.env))) _ _ s
  refine Calls.spliced_cons (wpAny_mono (PySem.wpAny_toks (h.run pins s h0 I)) (fun v s1 q => ?_) fun _ _ z => z.2)
  obtain ⟨hk, x, H1, I1, r1, q1⟩ := q
  exact thn (q1.run pos pins s1 (Nat.le_trans h0 hk) I1) fun us s2 ⟨xs, H2, I2, r2, q2⟩ => ⟨x :: xs, H2, I2, .cons r1 r2, q2⟩
theorem za_conss {Q : List V → Hp → Prop} (h : ZEs X e σ H fun x H1 => ZA1 X es σ H1 fun xs H2 => Q (x :: xs) H2) (hs : starEach (e :: es) X.env = (false, eval e X.env) :: starEach es X.env) : ZA X (e :: es) σ H Q := by
  refine ⟨fun pos pins s I => ?_⟩
  rw [hs]
  show wpAny _ _ (spliced ((false, eval e X.env) :: backTo pos (starEach es X.env))) _ _ s
  refine Calls.spliced_cons (wpAny_mono (h.run pins s I) (fun v s1 q => ?_) fun _ _ z => z)
  obtain ⟨hk, x, H1, I1, r1, q1⟩ := q
  exact thn (q1.run pos pins s1 hk I1) fun us s2 ⟨xs, H2, I2, r2, q2⟩ => ⟨x :: xs, H2, I2, .cons r1 r2, q2⟩
/-- e + 'text' -/
theorem zes_addlit {z : Str} {j : Nat} {c0 : Pos} (h : ZE X a σ H fun x H1 => OpW X σ (binaryOp .Add) x (.str z) H1 Q) : ZEs X (.BinOp a .Add (.Constant (.str z) j c0) pos) σ H Q := by
  refine ⟨fun pins s I => ?_⟩
  refine wpAny_BinOp (thn (h.run pins s I) fun v s1 ⟨x, H1, I1, r1, q1⟩ => Calls.Constant_str ?_)
  refine wpAny_mono (PySem.wpAny_toks (q1.run pins { s1 with toks := s1.toks + 1 } v (.str z s1.toks) (I1.tok (s1.toks + 1)) r1 ⟨_, rfl⟩)) (fun u s2 q => ⟨?_, q.2⟩) fun _ _ z => z.2
  have : s1.toks + 1 ≤ s2.toks := q.1
  omega
theorem ze1_repl {y z : Str} {j k : Nat} {c0 c1 : Pos} (h : ZE X a σ H fun v H1 => ∃ x, v = .str x ∧ x.length + (x.length + 1) * z.length ≤ 16777216 ∧ Q (.str (Txt.replace x y z)) H1) (hyz : (y == z) = false := by decide)
    (hst : starEach [.Constant (.str y) j c0, .Constant (.str z) k c1] X.env = [(false, eval (.Constant (.str y) j c0) X.env), (false, eval (.Constant (.str z) k c1) X.env)] := by rfl)
    (hbase : attributeBase a "replace" X.env (eval a X.env) = eval a X.env := by rfl) (hline : (apos.endLine == pos.line) = true := by rfl) :
    ZE1 X (.Call (.Attribute a "replace" apos) [.Constant (.str y) j c0, .Constant (.str z) k c1] [] pos) σ H Q :=
  ⟨fun pins s h0 I => CwR.pet_replC (to := fun σ H Q => ZE X a σ H Q) pe_we hyz hst hbase hline pins s σ H Q h0 I h⟩
/-! ### names within a block -/
theorem b_name {N : List Str} {M : Nat} {sc : Scope} {x : Str} {i : Nat} {v : V} (S : NOk N M sc) (hN : X.N = N) (at_ : At N σ x i v) (hv : Vis X.env.scope x) (hd : (x == ("__debug__" : Str)) = false) (hcd : (x == ("__classdict__" : Str)) = false) (q : Q v H) : ZE X (.Name x pos) σ H Q :=
  ze_var i (by rw [hN]; exact at_.get.1) at_.get.2 q hv hd hcd
theorem b_gname {Q : St → Hp → Prop} {N : List Str} {M : Nat} {sc : Scope} {x : Str} {i : Nat} {v : V} (S : NOk N M sc) (hN : X.N = N) (sa : SetAt N σ x i v σ') (hx : Loc X.env.scope x) (hf : X.fn x = true ∨ X.env.scope.names.lookup x = some .local) (q : Q σ' H) : ZG X (.Name x pos) v σ H Q :=
  zg_name i (by rw [hN]; exact S.nd) (by rw [hN]; exact sa.get.1) (by rw [sa.get.2]; exact q) hx hf
end
section
variable {X : Cx} {elt tg iter c : Expr} {scope : Scope} {own : List (Str × Nat)} {pos : Pos} {σ : St} {H : Hp} {Q : VK}
/-- [elt for tg in range(lo, hi) if c] -/
theorem ze_lcR2i {e b : Expr} {p : Pos} {rpos : Pos} (hc : X.calm = true) (hN : X.N.Nodup) (ok : BlkOk X.N X.env.scope scope own) (hm : X.mg "range" = none)
    (h : ZA X [e, b] σ H fun vs H1 => ∃ lo j : Int, vs = [.int lo, .int j] ∧ (-(2 ^ 62) ≤ lo ∧ lo < 2 ^ 62 ∧ -(2 ^ 62) ≤ j ∧ j < 2 ^ 62) ∧ ∀ D, NoA H1 D → ∃ Pv : Nat → Hp → Prop, Pv 0 (upd H1 D (.lst [])) ∧
      (∀ (i : Nat) H, i < (j - lo).toNat → Pv i H → gBlk X scope tg (.int (lo + i)) (wipe σ (own.map (·.2))) H fun σ2 H2 => wipe σ2 (own.map (·.2)) = wipe σ (own.map (·.2)) ∧ tBlk X scope c σ2 H2 fun k H3 => if k = true then eBlk X scope elt σ2 H3 fun y H4 => ∃ acc, H4 D = some (.lst acc) ∧ acc.length < sizeLine ∧ Pv (i + 1) (upd H4 D (.lst (acc ++ [y]))) else Pv (i + 1) H3) ∧
      ∀ H, Pv (j - lo).toNat H → Q (.ref D) H)
    (hg : Gl X "range" := by rfl) (hst : starEach [e, b] X.env = [(false, eval e X.env), (false, eval b X.env)] := by rfl) (hst2 : starEach [b] X.env = [(false, eval b X.env)] := by rfl) (hs : ∀ x, foldedSetIterable (.Call (.Name "range" p) [e, b] [] rpos) X.env x = pure x := by intro _; rfl) :
    ZE X (.ListComp elt [⟨tg, .Call (.Name "range" p) [e, b] [] rpos, [c], 0⟩] scope pos) σ H Q := by
  refine (pe_lc (tt := tBlk X scope c) hc hN (pi_range2 (tg := tg) hg hm pa_wa hst hst2) ok pg_blk (fun s H C cl fp => pts_one (pt_blk s H C cl fp)) pe_blk hs).w ?_
  refine ⟨fun ps pins s I => thn (h.run ps pins s I) fun u s1 hh => ?_⟩
  obtain ⟨vs, H1, I1, r1, lo, j, ex, l1, k⟩ := hh
  refine ⟨vs, H1, I1, r1, lo, j, ex, l1, fun D hD => ?_⟩
  obtain ⟨Pv, h0, hs', hd⟩ := k D ⟨hD⟩
  exact lc_range (lo := lo) (g := gBlk X scope tg) (te := eBlk X scope elt) (tt := tBlk X scope c) Pv h0 (fun i H hx hp => hs' i _ hx hp) hd
end
section
variable {X : Cx} {H : Hp} {Q : VK} {z z2 : Str} {p : Addr} {xs : List V}
theorem mw_split (hz2 : (z2.length == 0) = false) (hz : z.length + 2 ≤ sizeLine) (h : ∀ p, NoA H p → Q (.ref p) (upd H p (.lst ((Txt.split z z2).map V.str)))) : MtW X "str.split" (.str z) [.str z2] H Q := MtR.w mt_split ⟨z, z2, rfl, rfl, hz2, hz, fun p n => h p ⟨n⟩⟩
theorem ow_inS {l : List Str} (hs : SqL X.K H p (l.map V.str) ∨ SqT X.K H p (l.map V.str)) (h : Q (.bl (decide (z ∈ l))) H) : OpW X σ (compareOp .In) (.str z) (.ref p) H Q := ow_in hs rfl (by simp [List.all_map, flatV]) (by rw [inV_str]; exact h)
theorem ow_notinS {l : List Str} (hs : SqL X.K H p (l.map V.str) ∨ SqT X.K H p (l.map V.str)) (h : Q (.bl (!decide (z ∈ l))) H) : OpW X σ (compareOp .NotIn) (.str z) (.ref p) H Q := ow_notin hs rfl (by simp [List.all_map, flatV]) (by rw [inV_str]; exact h)
end
end L2
namespace L2
open PySem PySem.Spec PyProof.Rows
theorem xw_lstP {X : Cx} {H : Hp} {Q : VK} {p : Addr} {xs : List V} {i : Int} {P : V → Prop} (hs : SqL X.K H p xs) (h0 : 0 ≤ i) (h1 : i < xs.length) (hp : ∀ v ∈ xs, P v) (h : ∀ v, P v → Q v H) : IxW X σ (.ref p) (.int i) H Q := by
  obtain ⟨x, hx, hx2⟩ := atI_lt h0 h1
  exact xw_lst hs hx2 (h x (hp x (List.mem_of_getElem? hx)))
theorem All.nil {P : V → Prop} : ∀ v ∈ ([] : List V), P v := fun v h => by cases h
theorem All.cons {P : V → Prop} {a : V} {l : List V} (h : P a) (t : ∀ v ∈ l, P v) : ∀ v ∈ a :: l, P v := fun v hv => by
  rcases List.mem_cons.mp hv with rfl | hv
  · exact h
  · exact t v hv
theorem All.app {P : V → Prop} {a l : List V} (h : ∀ v ∈ a, P v) (t : ∀ v ∈ l, P v) : ∀ v ∈ a ++ l, P v := fun v hv => (List.mem_append.mp hv).elim (h v) (t v)
end L2
namespace L2
open PySem PySem.Spec PyProof.Rows
theorem ow_eqD {X : Cx} {H : Hp} {Q : VK} {x y : V} {d e : PyData} {r : Bool} (hu : X.A.units + 64 < cLine) (hx : Dp X.K H x d) (hy : Dp X.K H y e) (h1 : SeqAt.shaped d = true) (h2 : SeqAt.shaped e = true) (hr : PyData.eqv d e = r) (h : Q (.bl r) H) : OpW X σ (compareOp .Eq) x y H Q :=
  (op_eqD hu).w ⟨d, e, hx, hy, h1, h2, by rw [hr]; exact h⟩
theorem Room.u64 {k : Nat} {A : Around} (h : Room k A) : A.units + 64 < cLine := by have := h.un; omega
theorem zss_cut {X : Cx} {st : Stmt} {rest : List Stmt} {nx bk ct : NX} {rt : VK} {σ : St} {H : Hp} (Mid : NX) (h1 : ZS X st Mid rt bk ct σ H) (h2 : ∀ σ' H', Mid σ' H' → ZSs X rest nx rt bk ct σ' H') : ZSs X (st :: rest) nx rt bk ct σ H := by
  refine zss_cons ⟨fun pins s I => wpAny_mono (h1.run pins s I) (fun fl s' hs => ?_) fun _ _ z => z⟩
  cases fl with
  | next =>
    obtain ⟨σ', H', J, q⟩ := hs
    exact ⟨σ', H', J, h2 σ' H' q⟩
  | ret u => exact hs
  | brk => exact hs
  | cont => exact hs
end L2

/-! Objects of own classes: made, their fields, isinstance. -/
namespace L2
open PySem PySem.Spec PyProof.Rows
/-- a class as a name of the module, with what its __init__ promises (arguments behind the given ones by their defaults) -/
structure CalC (P : Program) (w : World) (K : PySem.W.Frag) (mg : Str → Option Value) (base : Heap) (k : Nat) (x : Str) (C : Addr) (sp : Sp) : Prop where
  ex : ∃ (f : Addr) (fd : FuncData) (ps : List Str) (sp0 : Sp), L2.Mk K C f ∧ FnOk P w K mg base (L2N.CX P w) k f fd ps sp0 ∧ mg x = some (.ref C) ∧ ∀ vs H Q E, sp vs H Q E → ∃ (dvs : List V) (ds : List Value), Binds K fd ps ds ∧ Vals dvs ds ∧ sp0 (vs ++ dvs) H Q E
section
variable {X : Cx} {e : Expr} {es : List Expr} {σ : St} {H : Hp} {Q : VK} {p pos : Pos}
theorem mrun {k : Nat} {C f : Addr} {fd : FuncData} {ps : List Str} {sp : Sp} {pins : List (Addr × Obj)} {s : Shared} {us : List Value} {vs : List V} (M : L2.Mk X.K C f) (F : FnOk X.prog X.w X.K X.mg X.base (L2N.CX X.prog X.w) k f fd ps sp) (hr : Room (k + 1) X.A)
    (I : Inv X pins σ H s) (r : Vals vs us) (h : ∀ a dx, NoA H a → NoA H dx → dx ≠ a → ∃ (dvs : List V) (ds : List Value), Binds X.K fd ps ds ∧ Vals dvs ds ∧ sp (.ref a :: (vs ++ dvs)) (upd (upd H dx (.own a)) a (.ins C dx [])) (fun v H2 => v = .non ∧ Q (.ref a) H2) (fun cls d H' => XW X cls d σ H')) : wpAny (model X.prog X.w) X.A (call (.ref C) us) (EP X pins σ Q) X.xe s := by
  have f1 : NoA H (s.heap.objs.size + 1) := ⟨I.hok.fresh (Nat.le_succ _)⟩
  have f2 : NoA H s.heap.objs.size := ⟨I.hok.fresh (Nat.le_refl _)⟩
  obtain ⟨dvs, ds, hb, hd, want⟩ := h _ _ f1 f2 (Nat.ne_of_lt (Nat.lt_succ_self _))
  have made := Inv.made (C := C) I
  have vals : Vals (V.ref (s.heap.objs.size + 1) :: (vs ++ dvs)) (Value.ref (s.heap.objs.size + 1) :: (us ++ ds)) := .cons rfl (r.append hd)
  have len : (Value.ref (s.heap.objs.size + 1) :: us ++ ds).length = ps.length := (vals.length.symm.trans (F.len _ _ _ _ want) : _)
  have bind := hb _ (Value.ref (s.heap.objs.size + 1) :: us) made.kIn len
  have body := F.run _ X.stack _ _ ⟨Value.ref (s.heap.objs.size + 1) :: us, []⟩ _ _ _ _ (hr.make C us []) (made.env0.make C us []) bind vals want
  refine wpAny_call (make_map (f := f) I.kIn M.makes M.init (beq_iff_eq.mp M.fn) (codeAny_mono body fun r s' got => ?_))
  cases r with
  | error ev => exact takes_xw ev s' (L2N.XE.of_call made (fun cls d H' w => w) got)
  | ok fl =>
    cases fl with
    | ret u =>
      obtain ⟨v, H', J, rv, ev, q3⟩ := made.after got
      subst ev
      exact ⟨rv, V.ref (s.heap.objs.size + 1), H', J, rfl, q3⟩
    | next => exact got.elim
    | brk => exact got.elim
    | cont => exact got.elim
theorem ze_make {x : Str} {C : Addr} {k j : Nat} {sp : Sp} (c : CalC X.prog X.w X.K X.mg X.base k x C sp) (hr : Room j X.A) (hk : k + 1 ≤ j) (h : ZA X (e :: es) σ H fun vs H1 => ∀ a dx, NoA H1 a → NoA H1 dx → dx ≠ a → sp (.ref a :: vs) (upd (upd H1 dx (.own a)) a (.ins C dx [])) (fun v H2 => v = .non ∧ Q (.ref a) H2) (fun cls d H' => XW X cls d σ H')) (hg : Gl X x)
    (hdb : (x == ("__debug__" : Str)) = false) (he : starEach (e :: es) X.env = (false, eval e X.env) :: starEach es X.env) (hpl : (backTo pos (starEach es X.env)).any (·.1) = false) : ZE X (.Call (.Name x p) (e :: es) [] pos) σ H Q := by
  obtain ⟨f, fd, ps, sp0, M, F, gm, im⟩ := c.ex
  refine ⟨fun pins s I => ?_⟩
  refine wpAny_Call_Name_kw (ld_glob I hg gm ?_ hdb)
  refine PySem.W.callWith_K (h₀ := X.base) I.ok.mod.kin M.kp (thn (h.run pos pins s I) fun us s1 ⟨vs, H1, I1, r, q⟩ => ⟨I1.kIn, ?_⟩) he hpl
  exact mrun M F (hr.mono hk) I1 r fun a dx n1 n2 ne => im (.ref a :: vs) _ _ _ (q a dx n1 n2 ne)
theorem s_make {P : Program} {w : World} {K : PySem.W.Frag} {mg : Str → Option Value} {base : Heap} {A : Around} {x : Str} {C : Addr} {k j : Nat} {sp : Sp} (c : CalC P w K mg base k x C sp) (hr : Room j A) (hk : k + 1 ≤ j) (hX : XIs X P w K mg base A)
    (h : ZA X (e :: es) σ H fun vs H1 => ∀ a dx, NoA H1 a → NoA H1 dx → dx ≠ a → sp (.ref a :: vs) (upd (upd H1 dx (.own a)) a (.ins C dx [])) (fun v H2 => v = .non ∧ Q (.ref a) H2) (fun cls d H' => XW X cls d σ H')) (hg : Gl X x)
    (hdb : (x == ("__debug__" : Str)) = false) (he : starEach (e :: es) X.env = (false, eval e X.env) :: starEach es X.env) (hpl : (backTo pos (starEach es X.env)).any (·.1) = false) : ZE X (.Call (.Name x p) (e :: es) [] pos) σ H Q := by
  obtain ⟨rfl, rfl, rfl, rfl, rfl, rfl⟩ := hX
  exact ze_make c hr hk h hg hdb he hpl
end
/-- what the written part says of an own class for isinstance -/
structure ClsI (K : PySem.W.Frag) (C : Addr) : Prop where
  cl : Cls K C
  ha : PySem.W.findIn K (.ref C) "__class__" = some (some (.builtin "object.__class__"))
  hn : PySem.W.specialIn K (.builtin "object.__class__") "__get__" = some (some (.builtin "getset_descriptor.__get__"))
  ht : PySem.W.takesIn K (.builtin "object.__class__") = some true
  hm : PySem.W.mroIn K C (.type "object") = some true
theorem ClsI.ty {K : PySem.W.Frag} {C p dx : Addr} {H : Hp} {fs : List (Str × V)} (c : ClsI K C) (e : H p = some (.ins C dx fs)) : TyX K H (.ref p) (.ref C) := .base (.ins e c.cl c.ha c.hn c.ht c.hm)
theorem kit_self {K : PySem.W.Frag} {C : Addr} : PySem.W.kitOne K (.ref C) (.ref C) = some true := by
  unfold PySem.W.kitOne
  rw [if_pos (by simp)]
theorem putF_base (y : V) : putF "base" y [] = [(("base" : Str), y)] := rfl
end L2
namespace L2
open PySem PySem.Spec PyProof.Rows
/-! ### sizes in bits -/
def Bd (N : Nat) (i : Int) : Prop := i.natAbs < 2 ^ N
theorem Bd.mono {N M : Nat} {i : Int} (h : Bd N i) (l : N ≤ M) : Bd M i := Nat.lt_of_lt_of_le h (Nat.pow_le_pow_right (by decide) l)
theorem Bd.mul {N M : Nat} {i j : Int} (h : Bd N i) (k : Bd M j) : Bd (N + M) (i * j) := by
  unfold Bd at *
  rw [Int.natAbs_mul, Nat.pow_add]
  exact Nat.mul_lt_mul'' h k
theorem Bd.one : Bd 1 1 := by unfold Bd; decide
theorem Bd.pow {N : Nat} {i : Int} (h : Bd N i) : ∀ n : Nat, Bd (N * n + 1) (i ^ n)
  | 0 => by unfold Bd; simp
  | n + 1 => by
    have ih := Bd.pow h n
    rw [Int.pow_succ]
    exact (ih.mul h).mono (by rw [Nat.mul_succ]; omega)
theorem Bd.log {N : Nat} {i : Int} (h : Bd N i) : i.natAbs.log2 ≤ N := by
  by_cases z : i.natAbs = 0
  · rw [z]; simp
  · exact Nat.le_of_lt ((Nat.log2_lt z).mpr h)
theorem Bd.cmul {N M : Nat} {i j : Int} (h : Bd N i) (k : Bd M j) (l : N + M < 1000000) : CMulW i j := by
  unfold CMulW
  have a := h.log
  have b := k.log
  omega
theorem Bd.neg {N : Nat} {i : Int} (h : Bd N i) : Bd N (-i) := by unfold Bd at *; rwa [Int.natAbs_neg]
theorem Bd.of {N : Nat} {i : Int} (h1 : -(2 ^ N : Int) < i) (h2 : i < 2 ^ N) : Bd N i := by
  unfold Bd
  have : ((2 ^ N : Nat) : Int) = (2 : Int) ^ N := by push_cast; rfl
  omega
end L2
namespace L2
open PySem PySem.Spec PyProof.Rows
/-- for tg in reversed(range(n)): turn i takes n - 1 - i -/
theorem zs_forRev {X : Cx} {tg e : Expr} {body : List Stmt} {σ : St} {H : Hp} {nx bk ct : NX} {rt : VK} {pos p p2 rp rp2 : Pos} (hp : PassesOwn (model X.prog X.w) X.A X.env X.xe) (hc : X.calm = true) (hm : X.mg "range" = none) (hm2 : X.mg "reversed" = none)
    (h : ZE X e σ H fun x H1 => ∃ j : Nat, x = .int j ∧ j < 2 ^ 62 ∧ ∃ Iv : Nat → St → Hp → Prop, Iv 0 σ H1 ∧ (∀ (i : Nat) σ1 H2, i < j → Iv i σ1 H2 → ZG X tg (.int ((j - 1 - i : Nat) : Int)) σ1 H2 fun σ2 H3 => ZSs X body (Iv (i + 1)) rt nx (Iv (i + 1)) σ2 H3) ∧ ∀ σ1 H2, Iv j σ1 H2 → nx σ1 H2)
    (hg : Gl X "range" := by rfl) (hg2 : Gl X "reversed" := by rfl) (hs : ∀ x, foldedSetIterable (.Call (.Name "reversed" p) [.Call (.Name "range" p2) [e] [] rp] [] rp2) X.env x = pure x := by intro _; rfl)
    (na : starEach [e] X.env = (false, eval e X.env) :: starEach [] X.env := by rfl) (na2 : starEach [.Call (.Name "range" p2) [e] [] rp] X.env = (false, eval (.Call (.Name "range" p2) [e] [] rp) X.env) :: starEach [] X.env := by rfl) :
    ZS X (.For tg (.Call (.Name "reversed" p) [.Call (.Name "range" p2) [e] [] rp] [] rp2) body [] pos) nx rt bk ct σ H := by
  refine zs_for hp hc ((pi_revR (tg := tg) hg2 hm2 (prg_1 hg hm pe_we na) na2).w ?_) hs
  refine ⟨fun pins s I => thn (h.run pins s I) fun u s1 hh => ?_⟩
  obtain ⟨x, H1, I1, r1, j, ex, hj, Iv, i0, st, fi⟩ := hh
  refine ⟨x, H1, I1, r1, (j : Int), ex, by omega, by omega, by omega, by omega, ?_⟩
  have e0 : ((j : Int) - 0).toNat = j := by omega
  rw [e0]
  refine ⟨fun i m σ' H' => m = j - i ∧ i ≤ j ∧ Iv i σ' H', ⟨_, rfl, Nat.zero_le _, i0⟩, ?_⟩
  rintro i m σ' H' ⟨rfl, hi, iv⟩
  by_cases hlt : i < j
  · refine .inr ⟨hlt, Iv (i + 1), fun σ2 H2 q => ⟨_, by omega, rfl, hlt, q⟩, fun x H2 y => ?_⟩
    obtain ⟨rfl, rfl⟩ := y
    have := st i σ' _ hlt iv
    rw [show (0 + (j : Int) - 1 + (i : Int) * -1) = ((j - 1 - i : Nat) : Int) by omega]
    exact this
  · have e : i = j := by omega
    subst e
    exact .inl ⟨Nat.le_refl _, fi _ _ iv⟩
end L2

namespace L2
open PySem PySem.Spec PyProof.Rows
/-! ### sizes in digits of a base -/
def Sm (b : Int) (n : Nat) (c : Int) : Prop := c.natAbs < b.natAbs ^ n
theorem Sm.mono {b c : Int} {n m : Nat} (h : Sm b n c) (b1 : 1 ≤ b) (l : n ≤ m) : Sm b m c := Nat.lt_of_lt_of_le h (Nat.pow_le_pow_right (by omega) l)
theorem Sm.bd {b c : Int} {n : Nat} (h : Sm b n c) (b0 : 0 ≤ b) (b9 : b ≤ 36) : Bd (6 * n) c := by
  refine Nat.lt_of_lt_of_le h ?_
  rw [Nat.pow_mul]
  exact Nat.pow_le_pow_left (by omega) _
theorem Sm.mulp {b c : Int} {n : Nat} (h : Sm b n c) (b1 : 1 ≤ b) (k : Nat) : Sm b (n + k) (c * b ^ k) := by
  unfold Sm at *
  rw [Int.natAbs_mul, Int.natAbs_pow, Nat.pow_add]
  exact Nat.mul_lt_mul_of_pos_right h (Nat.pow_pos (by omega))
theorem Sm.step {b x d : Int} {n : Nat} (h : Sm b n x) (x0 : 0 ≤ x) (d0 : 0 ≤ d) (d9 : d < b) : Sm b (n + 1) (x * b + d) := by
  obtain ⟨x, rfl⟩ := Int.eq_ofNat_of_zero_le x0
  obtain ⟨d, rfl⟩ := Int.eq_ofNat_of_zero_le d0
  obtain ⟨b, rfl⟩ := Int.eq_ofNat_of_zero_le (show 0 ≤ b by omega)
  unfold Sm at *
  have e : ((x : Int) * (b : Int) + (d : Int)) = ((x * b + d : Nat) : Int) := by push_cast; rfl
  rw [e]
  simp only [Int.natAbs_natCast] at *
  have h1 : (x + 1) * b ≤ b ^ n * b := Nat.mul_le_mul_right _ h
  rw [Nat.add_mul] at h1
  rw [Nat.pow_succ]
  omega
theorem Sm.neg {b c : Int} {n : Nat} (h : Sm b n c) : Sm b n (-c) := by unfold Sm at *; rwa [Int.natAbs_neg]
theorem Sm.sgn {b c s : Int} {n : Nat} (h : Sm b n c) (hs : s.natAbs ≤ 1) : Sm b n (c * s) := by
  unfold Sm at *
  rw [Int.natAbs_mul]
  exact Nat.lt_of_le_of_lt (Nat.le_trans (Nat.mul_le_mul_left _ hs) (by rw [Nat.mul_one]; exact Nat.le_refl _)) h
theorem Sm.cnt {b r c : Int} {n k : Nat} (h : Sm b n c) (b2 : 2 ≤ b) (e : r * b ^ k = c) (c0 : c ≠ 0) : k < n := by
  unfold Sm at h
  rw [← e, Int.natAbs_mul, Int.natAbs_pow] at h
  have r0 : r.natAbs ≠ 0 := fun z => c0 (by rw [← e, Int.natAbs_eq_zero.mp z, Int.zero_mul])
  have h2 : b.natAbs ^ k ≤ r.natAbs * b.natAbs ^ k := Nat.le_mul_of_pos_left _ (by omega)
  exact (Nat.pow_lt_pow_iff_right (show 1 < b.natAbs by omega)).mp (Nat.lt_of_le_of_lt h2 h)
end L2
namespace L2
open PySem PySem.Spec PyProof.Rows
theorem binds_all {K : PySem.W.Frag} {fd : FuncData} {ps : List Str} {dvs : List V} {j : Nat} (h : ∃ ds, Vals (dvs.drop j) ds ∧ Binds K fd ps ds) (e : dvs.drop j = [] := by rfl) : Binds K fd ps [] := by
  obtain ⟨ds, v, b⟩ := h
  rw [e] at v
  cases v
  exact b
end L2
namespace L2
open PySem PySem.Spec PyProof.Rows
/-! ### properties of own classes (getters that raise nothing) -/
structure CalP (P : Program) (w : World) (K : PySem.W.Frag) (mg : Str → Option Value) (base : Heap) (k : Nat) (C : Addr) (f : Str) (sp : Sp) : Prop where
  ex : ∃ (p g : Addr) (fd : FuncData) (ps : List Str), PropOf K C f p g ∧ FnOk P w K mg base (L2N.CX P w) k g fd ps sp ∧ Binds K fd ps []
theorem aw_prop {X : Cx} {P : Program} {w : World} {K : PySem.W.Frag} {mg : Str → Option Value} {base : Heap} {A : Around} {H : Hp} {Q : VK} {a C dx : Addr} {fs : List (Str × V)} {f : Str} {k j : Nat} {sp : Sp} (c : CalP P w K mg base k C f sp) (cl : Cls K C) (hr : Room j A) (hk : k + 1 ≤ j) (hX : XIs X P w K mg base A) (ea : H a = some (.ins C dx fs)) (h : sp [.ref a] H Q (fun _ _ _ => False)) : AtW X f (.ref a) H Q := by
  obtain ⟨rfl, rfl, rfl, rfl, rfl, rfl⟩ := hX
  obtain ⟨p, g, fd, ps, hp, F, hb⟩ := c.ex
  refine ⟨fun pins s σ u I rx => ?_⟩
  obtain rfl : u = Value.ref a := rx
  exact getprop_ok (CX := L2N.CX X.prog X.w) (dvs := []) (ds := []) I ea cl hp F (hr.mono hk) hb .nil (fun _ _ _ _ _ _ _ z => (cxn_no (fun _ _ _ z => z) z).elim) h
end L2
namespace L2
open PySem PySem.Spec PyProof.Rows
/-! ### operators by own methods -/
section
variable {X : Cx} {P : Program} {w : World} {K : PySem.W.Frag} {mg : Str → Option Value} {base : Heap} {A : Around} {σ : St} {H : Hp} {Q : VK} {a b C C' dx dy : Addr} {fs gs : List (Str × V)} {m : Str} {k j : Nat} {sp : Sp} {y : V}
theorem own_run {pins : List (Addr × Obj)} {s : Shared} {v : Value} (cm : CalM X.prog X.w X.K X.mg X.base k C m sp) (hr : Room j X.A) (hk : k ≤ j) (I : Inv X pins σ H s) (ry : RelV y v) (h : sp [.ref a, y] H Q fun cls d H' => XW X cls d σ H') :
    ∃ f, PySem.W.findIn X.K (.ref C) m = some (some (.ref f)) ∧ PySem.W.isFn X.K (.ref f) = true ∧ wpAny (model X.prog X.w) X.A (call (.ref f) [.ref a, v]) (PySem.W.CmpBack (EP X pins σ Q)) X.xe s := by
  obtain ⟨f, fd, ps, dvs, ds, sp0, F, hm, hb, hd, im⟩ := cm.ex
  refine ⟨f, hm.at_, hm.fn, ?_⟩
  refine wpAny_mono (zrun (us := [.ref a, v]) (vs := [.ref a, y]) F (hr.mono hk) hb hd I (.cons rfl (.cons ry .nil)) (im _ _ _ _ h)) (fun u s' z => ?_) fun _ _ x => x
  obtain ⟨z', H', I', rz, qz⟩ := z
  exact SlX.cmpback rz ⟨z', H', I', rz, qz⟩
theorem ins_inst {pins : List (Addr × Obj)} {s : Shared} (I : Inv X pins σ H s) (ea : H a = some (.ins C dx fs)) : ∃ o od, PySem.W.InstAt s.heap a o C od := by
  obtain ⟨mA, O, _⟩ := ins_get I.hok ea
  obtain ⟨od, J, _⟩ := O.look
  exact ⟨_, _, J⟩
/-- x op y, both of one own class -/
theorem ow_own {op : Operator} (cm : CalM P w K mg base k C m sp) (hc : PySem.W.selfFirst K C = true) (hr : Room j A) (hk : k ≤ j) (hX : XIs X P w K mg base A) (hm : PySem.dunder op.info.2 = m) (ea : H a = some (.ins C dx fs)) (eb : H b = some (.ins C dy gs))
    (h : sp [.ref a, .ref b] H Q fun cls d H' => XW X cls d σ H') : OpW X σ (binaryOp op) (.ref a) (.ref b) H Q := by
  obtain ⟨rfl, rfl, rfl, rfl, rfl, rfl⟩ := hX
  refine ⟨fun pins s v u I rx ry => ?_⟩
  cases (show v = Value.ref a from rx)
  cases (show u = Value.ref b from ry)
  obtain ⟨_, _, J⟩ := ins_inst I ea
  obtain ⟨_, _, J'⟩ := ins_inst I eb
  obtain ⟨mm, hF⟩ := I.fr
  obtain ⟨f, h1, h2, h3⟩ := own_run (a := a) (y := .ref b) (v := .ref b) cm hr hk I rfl h
  exact PySem.W.binop_K hF I.ok.mod.kin J J'.type hc (by rw [hm]; exact h1) h2 h3
/-- what the written part says of an operator with an int on the right -/
structure BinT (K : PySem.W.Frag) (C : Addr) (nm : String) : Prop where
  hr : ∃ rc, PySem.W.findIn K (.ref C) (PySem.dunderR nm) = some rc ∧ (rc = none ∨ ∃ g : Addr, rc = some (.ref g))
  h1 : ∃ fo, PySem.W.findIn K (.type "int") (PySem.dunder nm) = some fo
  h2 : ∃ ro, PySem.W.findIn K (.type "int") (PySem.dunderR nm) = some ro
  hsub : PySem.W.subIn K (.type "int") (.ref C) = some false
/-- x op i, x of an own class -/
theorem ow_ownI {op : Operator} {i : Int} (cm : CalM P w K mg base k C m sp) (hc : PySem.W.selfFirst K C = true) (T : BinT K C op.info.2) (hr : Room j A) (hk : k ≤ j) (hX : XIs X P w K mg base A) (hm : PySem.dunder op.info.2 = m) (ea : H a = some (.ins C dx fs))
    (h : sp [.ref a, .int i] H Q fun cls d H' => XW X cls d σ H') : OpW X σ (binaryOp op) (.ref a) (.int i) H Q := by
  obtain ⟨rfl, rfl, rfl, rfl, rfl, rfl⟩ := hX
  refine ⟨fun pins s v u I rx ry => ?_⟩
  cases (show v = Value.ref a from rx)
  obtain ⟨t, rfl⟩ := ry
  obtain ⟨_, _, J⟩ := ins_inst I ea
  obtain ⟨mm, hF⟩ := I.fr
  obtain ⟨f, h1, h2, h3⟩ := own_run (a := a) (y := .int i) (v := .int i t) cm hr hk I ⟨t, rfl⟩ h
  obtain ⟨⟨rc, r1, r2⟩, ⟨fo, t1⟩, ⟨ro, t2⟩, sb⟩ := T
  exact PySem.W.ksp_binT (T := "int") hF I.ok.mod.kin J rfl hc (by rw [hm]; exact h1) h2 r1 r2 t1 t2 sb h3
/-- x cmp y, both of own classes -/
theorem ow_ownC {op : CmpOp} (hop : ∀ a b, compareOp op a b = richCompare op a b) (cm : CalM P w K mg base k C m sp) (hn : PySem.W.notFirst K C (.ref C') = true) (hr : Room j A) (hk : k ≤ j) (hX : XIs X P w K mg base A) (hm : (cmpInfo op).2.1 = m) (ea : H a = some (.ins C dx fs)) (eb : H b = some (.ins C' dy gs))
    (h : sp [.ref a, .ref b] H Q fun cls d H' => XW X cls d σ H') : OpW X σ (compareOp op) (.ref a) (.ref b) H Q := by
  obtain ⟨rfl, rfl, rfl, rfl, rfl, rfl⟩ := hX
  refine ⟨fun pins s v u I rx ry => ?_⟩
  cases (show v = Value.ref a from rx)
  cases (show u = Value.ref b from ry)
  obtain ⟨_, _, J⟩ := ins_inst I ea
  obtain ⟨_, _, J'⟩ := ins_inst I eb
  obtain ⟨mm, hF⟩ := I.fr
  obtain ⟨f, h1, h2, h3⟩ := own_run (a := a) (y := .ref b) (v := .ref b) cm hr hk I rfl h
  rw [hop]
  exact PySem.W.cmp_K (op := op) (tb := .ref C') hr.units0 hF I.ok.mod.kin J J'.type hn (by rw [hm]; exact h1) h2 h3
theorem notFirst_self : PySem.W.notFirst K C (.ref C) = true := by simp [PySem.W.notFirst]
end
theorem CalM.of {P : Program} {w : World} {K : PySem.W.Frag} {mg : Str → Option Value} {base : Heap} {k : Nat} {C f : Addr} {m : Str} {fd : FuncData} {ps : List Str} {sp : Sp} (M : Meth K C m f) (F : FnOk P w K mg base (L2N.CX P w) k f fd ps sp) (b : Binds K fd ps []) : CalM P w K mg base k C m sp :=
  ⟨f, fd, ps, [], [], sp, F, M, b, .nil, fun vs H Q E h => by rw [List.append_nil]; exact h⟩
end L2
namespace L2
open PySem PySem.Spec PyProof.Rows
/-! ### steps for them -/
inductive BinM : Operator → Str → Prop
  | add : BinM .Add "__add__" | sub : BinM .Sub "__sub__" | mul : BinM .Mult "__mul__" | fdiv : BinM .FloorDiv "__floordiv__" | mod : BinM .Mod "__mod__" | pow : BinM .Pow "__pow__" | shl : BinM .LShift "__lshift__" | shr : BinM .RShift "__rshift__" | div : BinM .Div "__truediv__" | band : BinM .BitAnd "__and__"
theorem BinM.ok {op : Operator} {m : Str} (h : BinM op m) : PySem.dunder op.info.2 = m := by cases h <;> decide +kernel
inductive CmpM : CmpOp → Str → Prop
  | lt : CmpM .Lt "__lt__" | le : CmpM .LtE "__le__" | gt : CmpM .Gt "__gt__" | ge : CmpM .GtE "__ge__" | eq : CmpM .Eq "__eq__"
theorem CmpM.ok {op : CmpOp} {m : Str} (h : CmpM op m) : (cmpInfo op).2.1 = m ∧ ∀ a b, compareOp op a b = richCompare op a b := by cases h <;> exact ⟨by decide +kernel, fun _ _ => rfl⟩
/-- x is an object of the class at C, m no field of it -/
structure OwnAt (H : Hp) (C : Addr) (m : Str) (x : V) (R : Prop) : Prop where
  ex : ∃ p dx fs, x = .ref p ∧ H p = some (.ins C dx fs) ∧ fs.lookup m = none ∧ R
section
variable {X : Cx} {P : Program} {w : World} {K : PySem.W.Frag} {mg : Str → Option Value} {base : Heap} {A : Around} {σ : St} {H : Hp} {Q : VK} {a b C C' dx dy : Addr} {fs gs : List (Str × V)} {m : Str} {k j : Nat} {sp : Sp} {y : V} {e o : Expr} {es : List Expr} {pos apos : Pos}
theorem OwnAt.do {R : Prop} (e : H a = some (.ins C dx fs)) (l : fs.lookup m = none) (r : R) : OwnAt H C m (.ref a) R := ⟨_, _, _, rfl, e, l, r⟩
theorem ow_bin {op : Operator} (bm : BinM op m) (cm : CalM P w K mg base k C m sp) (hc : PySem.W.selfFirst K C = true) (hr : Room j A) (hk : k ≤ j) (hX : XIs X P w K mg base A) (ea : H a = some (.ins C dx fs)) (eb : H b = some (.ins C dy gs))
    (h : sp [.ref a, .ref b] H Q fun cls d H' => XW X cls d σ H') : OpW X σ (binaryOp op) (.ref a) (.ref b) H Q := ow_own cm hc hr hk hX bm.ok ea eb h
theorem ow_binI {op : Operator} {i : Int} (bm : BinM op m) (cm : CalM P w K mg base k C m sp) (hc : PySem.W.selfFirst K C = true) (T : BinT K C op.info.2) (hr : Room j A) (hk : k ≤ j) (hX : XIs X P w K mg base A) (ea : H a = some (.ins C dx fs))
    (h : sp [.ref a, .int i] H Q fun cls d H' => XW X cls d σ H') : OpW X σ (binaryOp op) (.ref a) (.int i) H Q := ow_ownI cm hc T hr hk hX bm.ok ea h
theorem ow_cmpO {op : CmpOp} (bm : CmpM op m) (cm : CalM P w K mg base k C m sp) (hr : Room j A) (hk : k ≤ j) (hX : XIs X P w K mg base A) (ea : H a = some (.ins C dx fs)) (eb : H b = some (.ins C dy gs))
    (h : sp [.ref a, .ref b] H Q fun cls d H' => XW X cls d σ H') : OpW X σ (compareOp op) (.ref a) (.ref b) H Q := ow_ownC bm.ok.2 cm notFirst_self hr hk hX bm.ok.1 ea eb h
theorem s_meth {pl : Sem Bool} (cm : CalM P w K mg base k C m sp) (cl : Cls K C) (hr : Room j A) (hk : k ≤ j) (hX : XIs X P w K mg base A) (h : ZE X o σ H fun x H1 => OwnAt H1 C m x (ZA X (e :: es) σ H1 fun vs H2 => sp (x :: vs) H2 Q fun cls d H' => XW X cls d σ H'))
    (hst : starEach (e :: es) X.env = (false, eval e X.env) :: starEach es X.env) (hpl : (backTo pos (starEach es X.env)).any (·.1) = false)
    (ht : eval (.Call (.Attribute o m apos) (e :: es) [] pos) X.env = (do
      let ov ← eval o X.env
      standAt apos.atName
      let (f, first) ← holding [ov] (getMethod ov m pl)
      callWith pos f first (backTo pos (starEach (e :: es) X.env)) (backToKw pos (keywordEach [] X.env)))) : ZE X (.Call (.Attribute o m apos) (e :: es) [] pos) σ H Q := by
  obtain ⟨rfl, rfl, rfl, rfl, rfl, rfl⟩ := hX
  refine ze_meth (pl := pl) hr ⟨fun pins s I => thn (h.run pins s I) fun u s1 ⟨x, H1, I1, rx, ⟨p, dx, fs, ex, ea, l, q⟩⟩ => ?_⟩ hst hpl ht
  exact ⟨x, H1, I1, rx, p, C, dx, fs, k, sp, ex, ea, cl, cm, hk, l, q⟩
theorem s_meth0 {pl : Sem Bool} (cm : CalM P w K mg base k C m sp) (cl : Cls K C) (hr : Room j A) (hk : k ≤ j) (hX : XIs X P w K mg base A) (h : ZE X o σ H fun x H1 => OwnAt H1 C m x (sp [x] H1 Q fun cls d H' => XW X cls d σ H'))
    (ht : eval (.Call (.Attribute o m apos) [] [] pos) X.env = (do
      let ov ← eval o X.env
      standAt apos.atName
      let (f, first) ← holding [ov] (getMethod ov m pl)
      callWith pos f first (backTo pos (starEach [] X.env)) (backToKw pos (keywordEach [] X.env)))) : ZE X (.Call (.Attribute o m apos) [] [] pos) σ H Q := by
  obtain ⟨rfl, rfl, rfl, rfl, rfl, rfl⟩ := hX
  obtain ⟨f, fd, ps, dvs, ds, sp0, F, hm, hb, hd, im⟩ := cm.ex
  refine ⟨fun pins s I => ?_⟩
  refine PySem.W.methodCall_KW (pl := pl) (thn (h.run pins s I) fun u s1 ⟨x, H1, I1, rx, ⟨p, dx, fs, ex, ea, l, q⟩⟩ => ?_) ht
  subst ex
  obtain rfl : u = Value.ref p := rx
  refine getmeth_ok I1 ea cl hm l ?_
  exact PySem.W.callWith_K0 (first := [.ref p]) I1.kIn hm.kp (zrun (us := [.ref p]) (vs := [.ref p]) F (hr.mono hk) hb hd I1 (.cons rfl .nil) (im _ _ _ _ q))
end
end L2
namespace L2
theorem Sm.pow {b : Int} (h : 2 ≤ b) (n : Nat) : Sm b (n + 1) (b ^ n) := by
  unfold Sm
  rw [Int.natAbs_pow]
  exact Nat.pow_lt_pow_right (by omega) (by omega)
theorem Sm.near {b c d : Int} {n : Nat} (h : Sm b n c) (b2 : 2 ≤ b) (hd : d.natAbs ≤ 1) : Sm b (n + 1) (c + d) := by
  unfold Sm at *
  have h1 : b.natAbs ^ n * 2 ≤ b.natAbs ^ n * b.natAbs := Nat.mul_le_mul_left _ (by omega)
  rw [Nat.pow_succ]
  omega
theorem Sm.ge {b c : Int} {n j : Nat} (h : Sm b n c) (hb : 2 ≤ b) (g : b ^ j ≤ (c.natAbs : Int)) : j < n := by
  unfold Sm at h
  have : ((b.natAbs ^ j : Nat) : Int) ≤ c.natAbs := by push_cast; rw [show ((b.natAbs : Nat) : Int) = b by omega]; exact g
  exact (Nat.pow_lt_pow_iff_right (show 1 < b.natAbs by omega)).mp (Nat.lt_of_le_of_lt (by omega) h)
end L2
namespace L2
theorem ipow_le {b : Int} (h : 1 ≤ b) {j k : Nat} (l : j ≤ k) : b ^ j ≤ b ^ k := by
  have p1 : (0 : Int) < b ^ j := Int.pow_pos (by omega)
  have p2 : (0 : Int) < b ^ (k - j) := Int.pow_pos (by omega)
  have m := Int.mul_le_mul_of_nonneg_left (Int.add_one_le_of_lt p2) (Int.le_of_lt p1)
  rwa [Int.zero_add, Int.mul_one, ← Int.pow_add, show j + (k - j) = k by omega] at m
end L2
namespace L2
open PySem PySem.Spec PyProof.Rows
theorem xw_lstN {X : Cx} {σ : St} {H : Hp} {Q : VK} {p : Addr} {xs : List V} {i : Int} {j : Nat} {v : V} (e : i = (j : Int)) (hs : SqL X.K H p xs) (g : xs[j]? = some v) (h : Q v H) : IxW X σ (.ref p) (.int i) H Q := by
  subst e; exact xw_lst hs (atI_nat g) h
end L2
namespace L2N
open PySem PySem.Spec PyProof.Rows L2
section
variable {X : Cx} {C : Addr} {bmB : List Value} {B newId initId : String}
/-- X(), X an own exception class without own __init__ -/
theorem pmk_own0 {x : Str} {p pos : Pos} (F : ExcBaseFacts B newId initId bmB) (q : PySem.W.excIn X.K C bmB newId = true) (gC : X.mg x = some (.ref C)) (kC : PySem.W.keepIn X.K (.ref C) = true) (r : Raises X (.ref C)) (hg : Gl X x)
    (hdb : (x == ("__debug__" : Str)) = false) : PMk X (.Call (.Name x p) [] [] pos) (fun _ H Q => Q (.ref C) none H) := by
  intro pins s σ H Q I h
  refine wpAny_Call_Name_kw (ld_glob I hg gC ?_ hdb)
  refine PySem.W.callWith_K0 I.kIn kC ?_
  obtain ⟨bm, N, nm, qn, bs, hdct, sn, sub, ab, col, dd, k0, k1, k2, k3, k5, mN, hC, hN, hni, T⟩ := exc_obj I.kIn q
  exact wpAny_call_exc_subT F T hC hN hni (fun h' e hm => mk_of I hm r h (I.hok.gone hm.new)) (Nat.zero_le _)
end
end L2N
namespace L2
open PySem PySem.Spec PyProof.Rows
/-- an own exception class without own __init__, below ValueError -/
structure XCls0 (K : PySem.W.Frag) (mg : Str → Option Value) (x : Str) (C : Addr) : Prop where
  T : PySem.LX.ExcT K C
  gC : mg x = some (.ref C)
  q : PySem.W.excIn K C [.type "ValueError", .type "Exception", .type "BaseException", .type "object"] "ValueError.__new__" = true
theorem s_raise0 {X : Cx} {σ : St} {H : Hp} {nx bk ct : NX} {rt : VK} {p pos pos2 : Pos} {P : Program} {w : World} {K : PySem.W.Frag} {mg : Str → Option Value} {base : Heap} {A : Around} {x : Str} {C : Addr} (c : XCls0 K mg x C) (hX : XIs X P w K mg base A) (hc : X.calm = true)
    (h : XW X (.ref C) none σ H) (hg : Gl X x) (hdb : (x == ("__debug__" : Str)) = false) : ZS X (.Raise (some (.Call (.Name x p) [] [] pos)) none pos2) nx rt bk ct σ H := by
  obtain ⟨rfl, rfl, rfl, rfl, rfl, rfl⟩ := hX
  exact (L2N.ps_raise hc takes_xw (L2N.pmk_own0 PySem.F.excBase_ValueError c.q c.gC c.T.ox.kC (raises_own c.T.ox.exC c.T.ox.tyC) hg hdb)).w h
end L2
namespace L2
open PySem PySem.Spec PyProof.Rows
def CDivA (_ j : Int) : Prop := j ≠ 0 ∧ j.natAbs.log2 < 9000
theorem ow_fdivA {X : Cx} {σ : St} {H : Hp} {Q : VK} {i j : Int} (hc : CDivA i j) (h : Q (.int (i.fdiv j)) H) : OpW X σ (binaryOp .FloorDiv) (.int i) (.int j) H Q :=
  OpR.w (r := rI CDivA fun i j => .int (i.fdiv j)) (opI fun _ _ _ _ _ _ _ hc q => floordiv_int hc.1 q (.inl (PyProof.noPylong_of_log2 hc.2))) ⟨i, j, rfl, rfl, hc, h⟩
end L2
namespace L2
open PySem PySem.Spec PyProof.Rows
theorem zg_lst {X : Cx} {es : List Expr} {σ : St} {H : Hp} {pos : Pos} {k : Nat} {n : Nat} {v : V} {Q : St → Hp → Prop} (hc : X.calm = true) (h : ∃ p xs, v = .ref p ∧ SqL X.K H p xs ∧ xs.length = n ∧ ZGs X es xs σ H Q)
    (hn : (assignEach es X.env).length = n := by rfl) (hst : (assignEach es X.env).findIdx? (·.1) = none := by rfl) : ZG X (.Tuple es k pos) v σ H Q := (pg_unl hc pgs_wgs hn hst).w h
end L2
namespace L2
open PySem PySem.Spec PyProof.Rows
/-- for tg in range(n), within an except suite's call -/
theorem zs_forRH {X : Cx} {tg e : Expr} {body : List Stmt} {σ : St} {H : Hp} {nx bk ct : NX} {rt : VK} {pos p rpos : Pos} (hp : PassesOwn (model X.prog X.w) X.A X.env X.xe) (hc : L2H.HotC X) (hm : X.mg "range" = none)
    (h : ZA X [e] σ H fun vs H1 => ∃ j : Int, vs = [.int j] ∧ -(2 ^ 62) ≤ j ∧ j < 2 ^ 62 ∧ ∃ Iv : Nat → St → Hp → Prop, Iv 0 σ H1 ∧
      (∀ (i : Nat) σ1 H2, (i : Int) < j → Iv i σ1 H2 → ZG X tg (.int i) σ1 H2 fun σ2 H3 => ZSs X body (Iv (i + 1)) rt nx (Iv (i + 1)) σ2 H3) ∧ ∀ σ1 H2, Iv j.toNat σ1 H2 → nx σ1 H2)
    (hg : Gl X "range" := by rfl) (hst : starEach [e] X.env = [(false, eval e X.env)] := by rfl) (hs : ∀ x, foldedSetIterable (.Call (.Name "range" p) [e] [] rpos) X.env x = pure x := by intro _; rfl) :
    ZS X (.For tg (.Call (.Name "range" p) [e] [] rpos) body [] pos) nx rt bk ct σ H := by
  refine (L2H.ps_forH hp hc (L2H.pi_range1H hg hm pa_wa hst) pg_wg pss_wss hs).w ?_
  refine ⟨fun ps pins s I => thn (h.run ps pins s I) fun u s1 hh => ?_⟩
  obtain ⟨vs, H1, I1, r1, j, ex, l1, l2, Iv, i0, st, fi⟩ := hh
  refine ⟨vs, H1, I1, r1, j, ex, l1, l2, fun i m σ' H' => m = j.toNat - i ∧ i ≤ j.toNat ∧ Iv i σ' H', ⟨_, rfl, Nat.zero_le _, i0⟩, ?_⟩
  rintro i m σ' H' ⟨rfl, hi, iv⟩
  by_cases hlt : i < j.toNat
  · refine .inr ⟨hlt, Iv (i + 1), fun σ2 H2 q => ⟨_, by omega, rfl, hlt, q⟩, fun x H2 y => ?_⟩
    obtain ⟨rfl, rfl⟩ := y
    have := st i σ' _ (by omega) iv
    simpa using this
  · have e : i = j.toNat := by omega
    subst e
    exact .inl ⟨Nat.le_refl _, fi _ _ iv⟩
theorem pass_defH {P : Program} {w : World} {K : PySem.W.Frag} {mg : Str → Option Value} {base : Heap} {N : List Str} {qual : Str} {scope : Scope} {f : Addr} {cd : Value} {A : Around} {outer : List Env} {s : Shared} {H0 : Hp} {E : XK} {p : Addr × Obj} : PassesOwn (model P w) (L2H.cxH (L2N.CX P w) P w K mg base N qual scope f cd A outer s H0 E p).A (L2H.cxH (L2N.CX P w) P w K mg base N qual scope f cd A outer s H0 E p).env (L2H.cxH (L2N.CX P w) P w K mg base N qual scope f cd A outer s H0 E p).xe := passes_of rfl
end L2
namespace L2
open PySem PySem.Spec PyProof.Rows
section
variable {X : Cx} {elt tg iter : Expr} {scope : Scope} {own : List (Str × Nat)} {pos spos py : Pos} {σ : St} {H : Hp} {nx bk ct : NX} {rt : VK} {i : Nat} {y : Str}
/-- y = [elt for tg in iter] -/
theorem zs_lcL (hc : X.calm = true) (hN : X.N.Nodup) (hy : X.N[i]? = some y) (hyl : X.env.scope.names.lookup y = some .local) (hsw : swapsWith (.ListComp elt [⟨tg, iter, [], 0⟩] scope pos) (some (.Name y py)) spos.line X.env = pure true) (ok : BlkOk X.N X.env.scope scope own)
    (h : ZE X iter σ H fun x H1 => ∃ a xs, x = .ref a ∧ SqL X.K H1 a xs ∧ ∀ D, NoA H1 D → ∃ Pv : Nat → Hp → Prop, Pv 0 (upd H1 D (.lst [])) ∧ (∀ i H, i ≤ xs.length → Pv i H → SqL X.K H a xs) ∧
      (∀ i x H, xs[i]? = some x → Pv i H → gBlk X scope tg x (wipe σ (own.map (·.2))) H fun σ2 H2 => wipe σ2 (own.map (·.2)) = wipe σ (own.map (·.2)) ∧ eBlk X scope elt σ2 H2 fun y H4 => ∃ acc, H4 D = some (.lst acc) ∧ acc.length < sizeLine ∧ Pv (i + 1) (upd H4 D (.lst (acc ++ [y])))) ∧
      ∀ H, Pv xs.length H → nx (σ.set i (some (.ref D))) H)
    (hs : ∀ x, foldedSetIterable iter X.env x = pure x := by intro _; rfl) : ZS X (.Assign [.Name y py] (.ListComp elt [⟨tg, iter, [], 0⟩] scope pos) spos) nx rt bk ct σ H := by
  refine (ps_setLc (tt := tYes) hc hN hy hyl hsw (pi_list (tg := tg) pe_we) ok pg_blk (fun _ _ _ _ _ => pts_nil) pe_blk hs).w ?_
  refine ⟨fun pins s I => thn (h.run pins s I) fun u s1 hh => ?_⟩
  obtain ⟨x, H1, I1, r1, a, xs, ex, hl, k⟩ := hh
  refine ⟨x, H1, I1, r1, a, ex, ⟨xs, hl⟩, fun D hD => ?_⟩
  obtain ⟨Pv, h0, hk, hs', hd⟩ := k D ⟨hD⟩
  refine lc_list (g := gBlk X scope tg) (te := eBlk X scope elt) (tt := tYes) Pv h0 hk (fun i x H hx hp => ?_) hd
  exact hs' i x _ hx hp
/-- y = [elt for tg in range(n)] -/
theorem zs_lcR {e : Expr} {p rpos : Pos} (hc : X.calm = true) (hN : X.N.Nodup) (hy : X.N[i]? = some y) (hyl : X.env.scope.names.lookup y = some .local) (hsw : swapsWith (.ListComp elt [⟨tg, .Call (.Name "range" p) [e] [] rpos, [], 0⟩] scope pos) (some (.Name y py)) spos.line X.env = pure true) (ok : BlkOk X.N X.env.scope scope own) (hm : X.mg "range" = none)
    (h : ZA X [e] σ H fun vs H1 => ∃ j : Int, vs = [.int j] ∧ -(2 ^ 62) ≤ j ∧ j < 2 ^ 62 ∧ ∀ D, NoA H1 D → ∃ Pv : Nat → Hp → Prop, Pv 0 (upd H1 D (.lst [])) ∧
      (∀ (i : Nat) H, i < j.toNat → Pv i H → gBlk X scope tg (.int i) (wipe σ (own.map (·.2))) H fun σ2 H2 => wipe σ2 (own.map (·.2)) = wipe σ (own.map (·.2)) ∧ eBlk X scope elt σ2 H2 fun y H4 => ∃ acc, H4 D = some (.lst acc) ∧ acc.length < sizeLine ∧ Pv (i + 1) (upd H4 D (.lst (acc ++ [y])))) ∧
      ∀ H, Pv j.toNat H → nx (σ.set i (some (.ref D))) H)
    (hg : Gl X "range" := by rfl) (hst : starEach [e] X.env = [(false, eval e X.env)] := by rfl) (hs : ∀ x, foldedSetIterable (.Call (.Name "range" p) [e] [] rpos) X.env x = pure x := by intro _; rfl) : ZS X (.Assign [.Name y py] (.ListComp elt [⟨tg, .Call (.Name "range" p) [e] [] rpos, [], 0⟩] scope pos) spos) nx rt bk ct σ H := by
  refine (ps_setLc (tt := tYes) hc hN hy hyl hsw (pi_range1 (tg := tg) hg hm pa_wa hst) ok pg_blk (fun _ _ _ _ _ => pts_nil) pe_blk hs).w ?_
  refine ⟨fun ps pins s I => thn (h.run ps pins s I) fun u s1 hh => ?_⟩
  obtain ⟨vs, H1, I1, r1, j, ex, l1, l2, k⟩ := hh
  refine ⟨vs, H1, I1, r1, j, ex, l1, l2, fun D hD => ?_⟩
  obtain ⟨Pv, h0, hs', hd⟩ := k D ⟨hD⟩
  exact lc_range (lo := 0) (g := gBlk X scope tg) (te := eBlk X scope elt) (tt := tYes) Pv h0 (fun i H hx hp => by
    have := hs' i _ hx hp
    rw [Int.zero_add]
    exact this) hd
end
end L2
namespace L2
open PySem PySem.Spec PyProof.Rows
/-! ### in, abs by own methods; constants of a class; keywords -/
section
variable {X : Cx} {P : Program} {w : World} {K : PySem.W.Frag} {mg : Str → Option Value} {base : Heap} {A : Around} {σ : St} {H : Hp} {Q : VK} {a C dx : Addr} {fs : List (Str × V)} {k j : Nat} {sp : Sp} {y : V}
/-- y in x, x of an own class -/
theorem ow_inO (cm : CalM P w K mg base k C "__contains__" sp) (hr : Room j A) (hk : k ≤ j) (hX : XIs X P w K mg base A) (ea : H a = some (.ins C dx fs))
    (h : sp [.ref a, y] H (fun v H' => ∃ b, v = .bl b ∧ Q (.bl b) H') fun cls d H' => XW X cls d σ H') : OpW X σ (compareOp .In) y (.ref a) H Q := by
  obtain ⟨rfl, rfl, rfl, rfl, rfl, rfl⟩ := hX
  refine ⟨fun pins s v u I rx ry => ?_⟩
  cases (show u = Value.ref a from ry)
  obtain ⟨_, _, J⟩ := ins_inst I ea
  obtain ⟨mm, hF⟩ := I.fr
  obtain ⟨f, fd, ps, dvs, ds, sp0, F, hm, hb, hd, im⟩ := cm.ex
  refine PySem.W.in_K hF I.ok.mod.kin J hm.at_ hm.fn ?_
  refine thn (zrun (us := [.ref a, v]) (vs := [.ref a, y]) F (hr.mono hk) hb hd I (.cons rfl (.cons rx .nil)) (im _ _ _ _ h)) fun r s' z => ?_
  obtain ⟨z', H', I', rz, b, ez, qz⟩ := z
  subst ez
  cases rz
  exact wpAny_truthy_bool ⟨.bl b, H', I', rfl, qz⟩
/-- a def runs within a built-in function, raising nothing -/
theorem zrun1 {pins : List (Addr × Obj)} {s : Shared} {us : List Value} {vs : List V} {E' : Value → Shared → Prop} (cm : CalM X.prog X.w X.K X.mg X.base k C y0 sp) (hr : Room j X.A) (hk : k + 1 ≤ j) (I : Inv X pins σ H s) (r : Vals vs us) (h : sp vs H Q fun _ _ _ => False) :
    ∃ f, PySem.W.findIn X.K (.ref C) y0 = some (some (.ref f)) ∧ PySem.W.isFn X.K (.ref f) = true ∧ wpAny (model X.prog X.w) X.A.in1 (call (.ref f) us) (EP X pins σ Q) E' s := by
  obtain ⟨f, fd, ps, dvs, ds, sp0, F, hm, hb, hd, im⟩ := cm.ex
  refine ⟨f, hm.at_, hm.fn, ?_⟩
  have rr : Vals (vs ++ dvs) (us ++ ds) := r.append hd
  have hl : (us ++ ds).length = ps.length := by rw [← rr.length]; exact F.len _ _ _ _ (im _ _ _ _ h)
  refine wpAny_call (codeAny_mono (F.run X.A.in1 X.stack s H ⟨us, []⟩ (us ++ ds) (vs ++ dvs) Q _ (hr.mono hk).in1 I.env0.in1 (hb s us I.kIn hl) rr (im _ _ _ _ h)) fun r s' hq => ?_)
  cases r with
  | error e => exact (cxn_no (fun _ _ _ z => z) hq).elim
  | ok fl =>
    cases fl with
    | ret u => exact I.after hq
    | next => exact False.elim hq
    | brk => exact False.elim hq
    | cont => exact False.elim hq
/-- abs(x), x of an own class -/
theorem cw_absO (cm : CalM P w K mg base k C "__abs__" sp) (hr : Room j A) (hk : k + 1 ≤ j) (hX : XIs X P w K mg base A) (ea : H a = some (.ins C dx fs)) (h : sp [.ref a] H Q fun _ _ _ => False) : CallW X (.builtin "abs") [.ref a] H Q := by
  obtain ⟨rfl, rfl, rfl, rfl, rfl, rfl⟩ := hX
  refine ⟨fun pins s σ us I r => ?_⟩
  cases r with
  | cons ru rn =>
    cases rn
    cases ru
    obtain ⟨_, _, J⟩ := ins_inst I ea
    obtain ⟨f, h1, h2, h3⟩ := zrun1 (E' := X.xe) (σ := σ) cm hr hk I (.cons (show RelV (.ref a) (.ref a) from rfl) .nil) h
    refine Calls.call_function_entry kind_abs plain_abs entry_abs (args_abs _) ?_
    unfold Builtin.«abs»
    refine wpAny_bind (m := oneArg "abs" _) (wpAny_pure ?_)
    refine wpAny_bind (m := callSpecial? (.ref a) (Str.ofString "__abs__")) (PySem.W.special_fn I.kIn J h1 (beq_iff_eq.mp h2) (wpAny_mono h3 (fun u s' z => ?_) fun _ _ x => x))
    exact wpAny_pure ⟨_, rfl, z⟩
end
end L2
namespace L2
open PySem PySem.Spec PyProof.Rows
section
variable {X : Cx} {e a b c : Expr} {es : List Expr} {σ : St} {H : Hp} {Q : VK} {pos p kpos : Pos} {kws : List Keyword} {nm : Option Str}
/-- the values of the keywords -/
structure ZK (X : Cx) (kws : List Keyword) (σ : St) (H : Hp) (Q : List V → Hp → Prop) : Prop where
  run : ∀ pos pins s, Inv X pins σ H s → wpAny (model X.prog X.w) X.A (evalAll ((backToKw pos (keywordEach kws X.env)).map (·.2))) (AP X pins σ Q) X.xe s
theorem pk_wk : PK X kws (ZK X kws) := ⟨fun pos pins s σ H Q I h => h.run pos pins s I⟩
theorem zk_nil {Q : List V → Hp → Prop} (q : Q [] H) : ZK X [] σ H Q := ⟨fun pos pins s I => pk_nil.run pos pins s σ H Q I q⟩
theorem zk_cons {Q : List V → Hp → Prop} (h : ZE X e σ H fun x H1 => ZK X kws σ H1 fun xs H2 => Q (x :: xs) H2) : ZK X (⟨nm, e, kpos⟩ :: kws) σ H Q := ⟨fun pos pins s I => (pk_cons pe_we pk_wk).run pos pins s σ H Q I h⟩
/-- a class made with keywords named ks behind n values: g puts them in the order of __init__ -/
structure CalCK (P : Program) (w : World) (K : PySem.W.Frag) (mg : Str → Option Value) (base : Heap) (k : Nat) (x : Str) (C : Addr) (n : Nat) (ks : List Str) (sp : Sp) : Prop where
  ex : ∃ (f : Addr) (fd : FuncData) (ps : List Str) (sp0 : Sp) (g : List Value → List Value → List Value) (gV : List V → List V → List V), L2.Mk K C f ∧ FnOk P w K mg base (L2N.CX P w) k f fd ps sp0 ∧ mg x = some (.ref C) ∧ KBn K fd ps (n + 1) ks g gV ∧ ∀ r vs zs H Q E, sp (r :: (vs ++ zs)) H Q E → vs.length = n → zs.length = ks.length → sp0 (gV (r :: vs) zs) H Q E
theorem mrunK {k n : Nat} {C f : Addr} {fd : FuncData} {ps ks : List Str} {sp : Sp} {g : List Value → List Value → List Value} {gV : List V → List V → List V} {pins : List (Addr × Obj)} {s : Shared} {us ws : List Value} {vs zs : List V} (M : L2.Mk X.K C f) (F : FnOk X.prog X.w X.K X.mg X.base (L2N.CX X.prog X.w) k f fd ps sp) (hr : Room (k + 1) X.A) (hb : KBn X.K fd ps (n + 1) ks g gV)
    (I : Inv X pins σ H s) (r : Vals vs us) (rz : Vals zs ws) (l1 : vs.length = n) (l2 : zs.length = ks.length) (h : ∀ a dx, NoA H a → NoA H dx → dx ≠ a → sp (gV (.ref a :: vs) zs) (upd (upd H dx (.own a)) a (.ins C dx [])) (fun v H2 => v = .non ∧ Q (.ref a) H2) (fun cls d H' => XW X cls d σ H')) : wpAny (model X.prog X.w) X.A (call (.ref C) us (ks.zip ws)) (EP X pins σ Q) X.xe s := by
  have f1 : NoA H (s.heap.objs.size + 1) := ⟨I.hok.fresh (Nat.le_succ _)⟩
  have f2 : NoA H s.heap.objs.size := ⟨I.hok.fresh (Nat.le_refl _)⟩
  have want := h _ _ f1 f2 (Nat.ne_of_lt (Nat.lt_succ_self _))
  have made := Inv.made (C := C) I
  have r1 : Vals (V.ref (s.heap.objs.size + 1) :: vs) (Value.ref (s.heap.objs.size + 1) :: us) := .cons rfl r
  have r2 := hb.rel r1 rz
  have n1 : (Value.ref (s.heap.objs.size + 1) :: us).length = n + 1 := by rw [List.length_cons, ← r.length, l1]
  have body := F.run _ X.stack _ _ ⟨Value.ref (s.heap.objs.size + 1) :: us, ks.zip ws⟩ (g (Value.ref (s.heap.objs.size + 1) :: us) ws) _ _ _ (hr.make C us (ks.zip ws)) (made.env0.make C us (ks.zip ws)) (hb.to _ (Value.ref (s.heap.objs.size + 1) :: us) ws made.kIn n1 (rz.length.symm.trans l2)) r2 want
  refine wpAny_call (make_map (f := f) I.kIn M.makes M.init (beq_iff_eq.mp M.fn) (codeAny_mono body fun r s' got => ?_))
  cases r with
  | error ev => exact takes_xw ev s' (L2N.XE.of_call made (fun cls d H' w => w) got)
  | ok fl =>
    cases fl with
    | ret u =>
      obtain ⟨v, H', J, rv, ev, q3⟩ := made.after got
      subst ev
      exact ⟨rv, V.ref (s.heap.objs.size + 1), H', J, rfl, q3⟩
    | next => exact got.elim
    | brk => exact got.elim
    | cont => exact got.elim
theorem s_makeK {P : Program} {w : World} {K : PySem.W.Frag} {mg : Str → Option Value} {base : Heap} {A : Around} {x : Str} {C : Addr} {k j n : Nat} {ks : List Str} {sp : Sp} (c : CalCK P w K mg base k x C n ks sp) (hr : Room j A) (hk : k + 1 ≤ j) (hX : XIs X P w K mg base A)
    (h : ZA X (e :: es) σ H fun vs H1 => ZK X kws σ H1 fun zs H2 => vs.length = n ∧ zs.length = ks.length ∧ ∀ a dx, NoA H2 a → NoA H2 dx → dx ≠ a → sp (.ref a :: (vs ++ zs)) (upd (upd H2 dx (.own a)) a (.ins C dx [])) (fun v H3 => v = .non ∧ Q (.ref a) H3) (fun cls d H' => XW X cls d σ H')) (hg : Gl X x)
    (hall : (backToKw pos (keywordEach kws X.env)).all (·.1.isSome) = true) (hks : (backToKw pos (keywordEach kws X.env)).filterMap (·.1) = ks) (hdb : (x == ("__debug__" : Str)) = false)
    (he : starEach (e :: es) X.env = (false, eval e X.env) :: starEach es X.env) (hpl : ((backTo pos (starEach (e :: es) X.env)).any (·.1) || (backToKw pos (keywordEach kws X.env)).any (·.1.isNone)) = false) : ZE X (.Call (.Name x p) (e :: es) kws pos) σ H Q := by
  obtain ⟨rfl, rfl, rfl, rfl, rfl, rfl⟩ := hX
  obtain ⟨f, fd, ps, sp0, g, gV, M, F, gm, hb, im⟩ := c.ex
  refine ⟨fun pins s I => ?_⟩
  refine wpAny_Call_Name_kw (ld_glob I hg gm ?_ hdb)
  refine PySem.W.callWith_KW (h₀ := X.base) I.ok.mod.kin M.kp hall (thn (h.run pos pins s I) fun us s1 ⟨vs, H1, I1, r, q⟩ => ?_) hpl he
  refine thn (q.run pos pins s1 I1) fun ws s2 ⟨zs, H2, I2, rz, l1, l2, q2⟩ => ⟨I2.kIn, ?_⟩
  rw [hks]
  exact mrunK M F (hr.mono hk) hb I2 r rz l1 l2 fun a dx n1 n2 ne => im _ _ _ _ _ _ (q2 a dx n1 n2 ne) l1 l2
/-- a constant of a class, read off the class -/
theorem aw_cval {C : Addr} {mc : Value} {f : Str} {v : V} {u : Value} (r : ClX.CRead X.K C mc) (k : ClX.CVal X.K C mc f v u) (q : Q v H) : AtW X f (.ref C) H Q := by
  refine ⟨fun pins s σ w I rx => ?_⟩
  obtain rfl : w = Value.ref C := rx
  exact ClX.getcval_ok I r k fun s2 I2 => ⟨v, H, I2, k.rel, q⟩
end
end L2

/-! == and != with an instance of an own class on either side. -/
namespace L2
open PySem PySem.Spec PyProof.Rows
theorem looks_bind {M : Model} {h : Heap} {α β : Type} {m : Sem α} {f : α → Sem β} {a : α} {b : β} (h1 : PySem.W.Looks M h m a) (h2 : PySem.W.Looks M h (f a) b) : PySem.W.Looks M h (m >>= f) b :=
  fun A Q E s k q => wpAny_bind (h1 A _ E s k (h2 A Q E s k q))
theorem inst_own {M : Model} {h : Heap} {K : PySem.W.Frag} {x C : Addr} {ox : Obj} {od : Option Obj} {b : Value} {r : Bool} (kin : K.In h) (J : PySem.W.InstAt h x ox C od) (hs : PySem.W.subIn K (.ref C) b = some r) : PySem.W.Looks M h (PySem.isInstance (.ref x) b) r := by
  unfold PySem.isInstance
  exact looks_bind J.type (PySem.W.looks_subIn kin hs)
/-- the rich comparison by its two tries -/
theorem rich_of {M : Model} {A : Around} {E : Value → Shared → Prop} {s : Shared} {a b ta tb : Value} {op : CmpOp} {Q : Value → Shared → Prop} (hu : A.units < cLine) (ho : oneThing? op a b = none) (hta : PySem.W.Looks M s.heap (typeOf a) ta) (htb : PySem.W.Looks M s.heap (typeOf b) tb) (hsub : ta = tb ∨ PySem.W.Looks M s.heap (isSubtype tb ta) false)
    (h : wpAny M A (tryCompare a (cmpInfo op).2.1 b) (fun o s1 => match o with | some v => Q v s1 | none => wpAny M A (tryCompare b (cmpInfo op).2.2 a) (fun o s2 => ∃ v, o = some v ∧ Q v s2) E s1) E s) : wpAny M A (richCompare op a b) Q E s := by
  unfold richCompare
  refine wpAny_holding (wpAny_bind (wpAny_cRoomFor hu ?_))
  rw [ho]
  refine wpAny_bind (hta A _ E s (fun _ _ z => z) ?_)
  refine wpAny_bind (htb A _ E s (fun _ _ z => z) ?_)
  have fin : ∀ (m : Sem Value) (f : Option Value → Sem Value) (rest : Sem Value), wpAny M A m Q E s → wpAny M A m Q E s := fun m f rest h => h
  have step : ∀ {o : Option Value} {s1 : Shared} {rest : Sem Value}, (match o with | some v => Q v s1 | none => wpAny M A (tryCompare b (cmpInfo op).2.2 a) (fun o s2 => ∃ v, o = some v ∧ Q v s2) E s1) →
      wpAny M A (match o with | some v => pure v | x => (if (!false) = true then (tryCompare b (cmpInfo op).2.2 a >>= fun o => match o with | some v => pure v | x => rest) else rest)) Q E s1 := by
    intro o s1 rest q
    cases o with
    | some v => exact wpAny_pure q
    | none =>
      refine wpAny_bind (wpAny_mono q (fun o s2 q => ?_) fun _ _ z => z)
      obtain ⟨v, rfl, q⟩ := q
      exact wpAny_pure q
  dsimp only
  split
  · rename_i hne
    refine wpAny_bind ?_
    rcases hsub with rfl | hsub
    · simp at hne
    · refine hsub A _ E s (fun _ _ z => z) ?_
      rw [if_neg Bool.false_ne_true]
      exact wpAny_bind (wpAny_mono h (fun o s1 q => step q) fun _ _ z => z)
  · refine wpAny_bind (wpAny_pure ?_)
    rw [if_neg Bool.false_ne_true]
    exact wpAny_bind (wpAny_mono h (fun o s1 q => step q) fun _ _ z => z)

theorem ifBound_slotO {M : Model} {A : Around} {E : Value → Shared → Prop} {s : Shared} {K : PySem.W.Frag} {x C : Addr} {ox : Obj} {od : Option Obj} {name : Str} {id : String} {args : List Value} {Q : Option Value → Shared → Prop} (kin : K.In s.heap) (J : PySem.W.InstAt s.heap x ox C od) (hf : PySem.W.findIn K (.ref C) name = some (some (.builtin id))) (hb : ∀ self, bindSpecial (.builtin id) self = pure (.builtin id, [self]))
    (h : wpAny M A (call (.builtin id) (.ref x :: args)) (fun v => Q (some v)) E s) : wpAny M A (callSpecialIfBound? (.ref x) name args) Q E s := by
  have fin : wpAny M A (do let r ← call (.builtin id) ([.ref x] ++ args); pure (some r)) Q E s := wpAny_bind (wpAny_mono h (fun v s1 q => wpAny_pure q) fun _ _ z => z)
  unfold callSpecialIfBound? bindSpecialIfBound? specialOf
  refine wpAny_holding (wpAny_bind (wpAny_bind (wpAny_bind (J.type A _ E s (fun _ _ z => z) (PySem.W.looks_findIn kin hf A _ E s (fun _ _ z => z) ?_)))))
  dsimp only
  rw [hb]
  refine wpAny_bind (wpAny_askSetting ?_)
  dsimp only
  split
  · exact wpAny_bind (wpAny_pure (wpAny_pure fin))
  · exact wpAny_tryCatch (wpAny_bind (wpAny_pure (wpAny_pure fin)))
theorem call_slotB {prog : Program} {w : World} {A : Around} {E : Value → Shared → Prop} {s : Shared} {id : String} {b : Builtin} {args : List Value} {Q : Value → Shared → Prop} (hp : plainId id = true) (he : entryFor table id = some b) (hc : ∀ Q' E', Q' () s → wpAny (model prog w) A.in1 (checkBuiltinCall id ⟨args, []⟩) Q' E' s)
    (h : wpAny (model prog w) A.in1 (b ⟨args, []⟩) (fun fin s' => ∃ v, fin = .done (.ret v) ∧ Q v s') E s) : wpAny (model prog w) A (call (.builtin id) args) Q E s := by
  refine wpAny_call (codeAny_call_builtin hp he (hc _ _ (wpAny_mono h (fun fin s' q => ?_) fun _ _ z => z)))
  obtain ⟨v, rfl, q⟩ := q
  exact q
/-- x != v by an own __eq__ that gives a bool -/
theorem try_neO {prog : Program} {w : World} {A : Around} {E : Value → Shared → Prop} {s : Shared} {K : PySem.W.Frag} {x C f : Addr} {ox : Obj} {od : Option Obj} {v : Value} {Q : Option Value → Shared → Prop} (hu : A.in1.units < cLine) (kin : K.In s.heap) (J : PySem.W.InstAt s.heap x ox C od) (hn : PySem.W.findIn K (.ref C) "__ne__" = some (some (.builtin "object.__ne__"))) (hm : PySem.W.mroIn K C (.type "object") = some true)
    (hf : PySem.W.findIn K (.ref C) "__eq__" = some (some (.ref f))) (hF : PySem.W.isFn K (.ref f) = true) (h : wpAny (model prog w) A.in1 (call (.ref f) [.ref x, v]) (fun r s' => ∃ b, r = .bool b ∧ Q (some (.bool (!b))) s') E s) : wpAny (model prog w) A (tryCompare (.ref x) "__ne__" v) Q E s := by
  unfold tryCompare
  refine wpAny_bind (ifBound_slotO (id := "object.__ne__") kin J hn PySem.F.slot_object_ne.bind ?_)
  refine call_slotB (by decide +kernel) PySem.F.entry_object_ne (fun Q' E' q => PySem.W.check_slot (owner := "object") (n := "__ne__") (by decide +kernel) (by decide +kernel) (inst_own kin J hm) (PySem.F.args_object_ne_2 _ _) q) ?_
  unfold Builtin.«object.__ne__»
  refine wpAny_bind (wpAny_pure ?_)
  dsimp only
  refine wpAny_bind (wpAny_cRoomFor hu (wpAny_bind (PySem.W.ifBound_K kin J hf hF (wpAny_mono h (fun r s' q => ?_) fun _ _ z => z))))
  obtain ⟨b, rfl, q⟩ := q
  exact wpAny_bind (wpAny_truthy_bool (wpAny_pure ⟨_, rfl, wpAny_pure q⟩))

/-! a value of a built-in type beside an instance -/
theorem sub_type {K : PySem.W.Frag} {C : Addr} {T : String} (h : T = "int" ∨ T = "bool" ∨ T = "str" ∨ T = "list" ∨ T = "tuple" ∨ T = "NoneType") : PySem.W.subIn K (.type T) (.ref C) = some false := by
  rcases h with rfl | rfl | rfl | rfl | rfl | rfl <;> rfl
/-- what the written part says of an own class beside the built-in types -/
structure NotB (K : PySem.W.Frag) (C : Addr) : Prop where
  no : ∀ T, (T = "int" ∨ T = "bool" ∨ T = "str" ∨ T = "list" ∨ T = "tuple" ∨ T = "NoneType") → PySem.W.mroIn K C (.type T) = some false
theorem NotB.of {K : PySem.W.Frag} {C : Addr} (h1 : PySem.W.mroIn K C (.type "int") = some false) (h2 : PySem.W.mroIn K C (.type "bool") = some false) (h3 : PySem.W.mroIn K C (.type "str") = some false) (h4 : PySem.W.mroIn K C (.type "list") = some false) (h5 : PySem.W.mroIn K C (.type "tuple") = some false) (h6 : PySem.W.mroIn K C (.type "NoneType") = some false) : NotB K C :=
  ⟨fun T h => by rcases h with rfl | rfl | rfl | rfl | rfl | rfl <;> assumption⟩
theorem looks_is {M : Model} {s : Shared} {v : Value} {T : String} (h : s.TypeIs v T) : PySem.W.Looks M s.heap (typeOf v) (.type T) := by
  unfold Shared.TypeIs at h
  split at h
  · obtain ⟨o, h1, h2⟩ := h
    rename_i a
    have : PySem.W.Looks M s.heap (typeOf (.ref a)) o.cls := by
      unfold typeOf
      exact looks_bind (PySem.W.Looks.ld h1) PySem.W.Looks.now
    rwa [h2] at this
  · exact PySem.W.Looks.of_pure h
/-- T's == declines an instance of an own class -/
theorem eq_dec {prog : Program} {w : World} {A : Around} {E : Value → Shared → Prop} {s : Shared} {K : PySem.W.Frag} {y C : Addr} {oy : Obj} {od : Option Obj} {X : Cx} {pins : List (Addr × Obj)} {σ : St} {H : Hp} {x : V} {v : Value} {T : String} {Q : Option Value → Shared → Prop} (I : Inv X pins σ H s) (r : RelV x v) (b : TyB X.K H x T) (hT : T = "int" ∨ T = "bool" ∨ T = "str" ∨ T = "list" ∨ T = "tuple" ∨ T = "NoneType")
    (kin : K.In s.heap) (J : PySem.W.InstAt s.heap y oy C od) (N : NotB K C) (hd : ∀ p, oy.data ≠ .prim p) (q : ∀ s', Inv X pins σ H s' → Q none s') : wpAny (model prog w) A (tryCompare v "__eq__" (.ref y)) Q E s := by
  have ti := b.is I r
  have key : ∀ {id : String} {B : Builtin}, Slot T "__eq__" id → entryFor table id = some B → argsOk id ⟨[v, .ref y], []⟩ → wpAny (model prog w) A.in1 (B ⟨[v, .ref y], []⟩) (fun fin s' => fin = .done (.ret .notImplemented) ∧ Inv X pins σ H s') E s → wpAny (model prog w) A (tryCompare v "__eq__" (.ref y)) Q E s := fun sl en ao h =>
    wpAny_tryCompare_declines ti sl (call_slotB sl.plain en (fun Q' E' q => sl.check _ _ _ _ _ _ _ _ ti ao q) (wpAny_mono h (fun fin s' ⟨e, I'⟩ => ⟨_, e, rfl, q s' I'⟩) fun _ _ z => z))
  cases b with
  | non =>
    obtain rfl : v = .none := r
    refine key PySem.F.slot_NoneType_eq PySem.F.entry_NoneType_eq (PySem.F.args_NoneType_eq_2 _ _) ?_
    unfold Builtin.«NoneType.__eq__»
    exact wpAny_bind (wpAny_pure (wpAny_pure ⟨rfl, I⟩))
  | bl c =>
    obtain rfl : v = .bool c := r
    refine key PySem.F.slot_bool_eq PySem.F.entry_int_eq (PySem.F.args_int_eq_2 _ _) ?_
    show wpAny _ _ (Builtin.Int.intBinary "__eq__" (fun x y => ret (.bool (x == y))) false ⟨[.bool c, .ref y], []⟩) _ _ _
    unfold Builtin.Int.intBinary
    refine wpAny_bind (wpAny_pure (wpAny_bind (wpAny_bind (wpAny_pure (wpAny_pure (wpAny_bind (wpAny_bind (wpAny_load J.at_ ?_))))))))
    split
    · rename_i h; exact absurd h (hd _)
    · exact wpAny_pure (wpAny_bind (wpAny_rule (wpAny_pure ⟨rfl, I⟩)))
  | int c =>
    obtain ⟨t, rfl⟩ := r
    refine key PySem.F.slot_int_eq PySem.F.entry_int_eq (PySem.F.args_int_eq_2 _ _) ?_
    show wpAny _ _ (Builtin.Int.intBinary "__eq__" (fun x y => ret (.bool (x == y))) false ⟨[.int c t, .ref y], []⟩) _ _ _
    unfold Builtin.Int.intBinary
    refine wpAny_bind (wpAny_pure (wpAny_bind (wpAny_bind (wpAny_pure (wpAny_pure (wpAny_bind (wpAny_bind (wpAny_load J.at_ ?_))))))))
    split
    · rename_i h; exact absurd h (hd _)
    · exact wpAny_pure (wpAny_bind (wpAny_rule (wpAny_pure ⟨rfl, I⟩)))
  | str c =>
    obtain ⟨t, rfl⟩ := r
    refine key PySem.F.slot_str_eq PySem.F.entry_str_eq (PySem.F.args_str_eq_2 _ _) ?_
    show wpAny _ _ (Builtin.Str.strCompare "__eq__" (fun x y => x == y) ⟨[.str c t, .ref y], []⟩) _ _ _
    unfold Builtin.Str.strCompare
    refine wpAny_bind (wpAny_bind (wpAny_pure (wpAny_bind (wpAny_bind (wpAny_pure (wpAny_pure (wpAny_pure (wpAny_bind (wpAny_bind (wpAny_load J.at_ ?_))))))))))
    split
    · rename_i h; exact absurd h (hd _)
    · exact wpAny_pure (wpAny_bind (wpAny_rule (wpAny_pure ⟨rfl, I⟩)))
  | byt c => simp at hT
  | lst h =>
    obtain rfl : v = .ref _ := r
    refine key PySem.F.slot_list_eq PySem.F.entry_list_eq (PySem.F.args_list_eq_2 _ _) ?_
    unfold Builtin.«list.__eq__»
    refine wpAny_bind (m := slotArgs "__eq__" 1 _) (wpAny_pure (wpAny_bind (m := PySem.isInstance _ _) (inst_own kin J (N.no "list" hT) _ _ _ _ (fun _ _ z => z) ?_)))
    exact wpAny_pure ⟨rfl, I⟩
  | tup h =>
    obtain rfl : v = .ref _ := r
    refine key PySem.F.slot_tuple_eq PySem.F.entry_tuple_eq (PySem.F.args_tuple_eq_2 _ _) ?_
    unfold Builtin.«tuple.__eq__»
    refine wpAny_bind (m := slotArgs "__eq__" 1 _) (wpAny_pure (wpAny_bind (m := PySem.isInstance _ _) (inst_own kin J (N.no "tuple" hT) _ _ _ _ (fun _ _ z => z) ?_)))
    exact wpAny_pure ⟨rfl, I⟩
  | dK h => simp at hT

section
variable {X : Cx} {P : Program} {w : World} {K : PySem.W.Frag} {mg : Str → Option Value} {base : Heap} {A : Around} {σ : St} {H : Hp} {Q : VK} {a b C C' dx dy : Addr} {fs gs : List (Str × V)} {k j : Nat} {sp : Sp} {y : V} {T : String}
abbrev BT6 (T : String) : Prop := T = "int" ∨ T = "bool" ∨ T = "str" ∨ T = "list" ∨ T = "tuple" ∨ T = "NoneType"
theorem ins_data {pins : List (Addr × Obj)} {s : Shared} (I : Inv X pins σ H s) (ea : H a = some (.ins C dx fs)) : ∃ o od, PySem.W.InstAt s.heap a o C od ∧ ∀ p, o.data ≠ .prim p := by
  obtain ⟨mA, O, _⟩ := ins_get I.hok ea
  obtain ⟨od, J, _⟩ := O.look
  exact ⟨_, _, J, fun p z => by cases z⟩
/-- x == y, x of an own class, y of a built-in type -/
theorem ow_eqB (cm : CalM P w K mg base k C "__eq__" sp) (hT : BT6 T) (hr : Room j A) (hk : k ≤ j) (hX : XIs X P w K mg base A) (ea : H a = some (.ins C dx fs)) (b : TyB K H y T)
    (h : sp [.ref a, y] H Q fun cls d H' => XW X cls d σ H') : OpW X σ (compareOp .Eq) (.ref a) y H Q := by
  obtain ⟨rfl, rfl, rfl, rfl, rfl, rfl⟩ := hX
  refine ⟨fun pins s v u I rx ry => ?_⟩
  cases (show v = Value.ref a from rx)
  obtain ⟨_, _, J⟩ := ins_inst I ea
  obtain ⟨mm, hF⟩ := I.fr
  obtain ⟨f, h1, h2, h3⟩ := own_run (a := a) (y := y) (v := u) cm hr hk I ry h
  exact PySem.W.cmp_ofEq (PySem.W.cmp_K (op := .Eq) (tb := .type T) hr.units0 hF I.ok.mod.kin J (looks_is (b.is I ry)) (by unfold PySem.W.notFirst; rw [sub_type hT]; simp) h1 h2 h3)
/-- y == x, x of an own class, y of a built-in type -/
theorem ow_Beq (cm : CalM P w K mg base k C "__eq__" sp) (N : NotB K C) (hT : BT6 T) (hr : Room j A) (hk : k ≤ j) (hX : XIs X P w K mg base A) (ea : H a = some (.ins C dx fs)) (b : TyB K H y T)
    (h : sp [.ref a, y] H Q fun cls d H' => XW X cls d σ H') : OpW X σ (compareOp .Eq) y (.ref a) H Q := by
  obtain ⟨rfl, rfl, rfl, rfl, rfl, rfl⟩ := hX
  refine ⟨fun pins s v u I rx ry => ?_⟩
  cases (show u = Value.ref a from ry)
  obtain ⟨_, _, J, hd⟩ := ins_data I ea
  have ti := b.is I rx
  refine PySem.W.cmp_ofEq (rich_of hr.units0 (ti.oneThing_none _ _) (looks_is ti) J.type (.inr (PySem.W.looks_subIn I.kIn (N.no T hT))) (eq_dec I rx b hT I.kIn J N hd fun s' I' => ?_))
  obtain ⟨_, _, J'⟩ := ins_inst I' ea
  obtain ⟨f, h1, h2, h3⟩ := own_run (a := a) (y := y) (v := v) cm hr hk I' rx h
  show wpAny _ _ (tryCompare (.ref a) "__eq__" v) _ _ _
  unfold tryCompare
  refine wpAny_bind (PySem.W.ifBound_K I'.kIn J' h1 h2 (wpAny_mono h3 (fun r s2 q => ?_) fun _ _ z => z))
  cases r <;> first | exact q.elim | exact wpAny_pure ⟨_, rfl, q⟩
/-- x != y, x of an own class -/
theorem ow_neO (cm : CalM P w K mg base k C "__eq__" sp) (hn : PySem.W.findIn K (.ref C) "__ne__" = some (some (.builtin "object.__ne__"))) (hm : PySem.W.mroIn K C (.type "object") = some true) (hr : Room j A) (hk : k + 1 ≤ j) (hX : XIs X P w K mg base A) (ea : H a = some (.ins C dx fs))
    (ht : (∃ T, BT6 T ∧ TyB K H y T) ∨ (∃ b C' dy gs, y = .ref b ∧ H b = some (.ins C' dy gs) ∧ PySem.W.notFirst K C (.ref C') = true))
    (h : sp [.ref a, y] H (fun v H' => ∃ c, v = .bl c ∧ Q (.bl (!c)) H') fun _ _ _ => False) : OpW X σ (compareOp .NotEq) (.ref a) y H Q := by
  obtain ⟨rfl, rfl, rfl, rfl, rfl, rfl⟩ := hX
  refine ⟨fun pins s v u I rx ry => ?_⟩
  cases (show v = Value.ref a from rx)
  obtain ⟨_, _, J⟩ := ins_inst I ea
  obtain ⟨f, h1, h2, h3⟩ := zrun1 (E' := X.xe) (σ := σ) cm hr hk I (.cons (show RelV (.ref a) (.ref a) from rfl) (.cons ry .nil)) h
  obtain ⟨tb, htb, hsub⟩ : ∃ tb, PySem.W.Looks (model X.prog X.w) s.heap (typeOf u) tb ∧ (Value.ref C = tb ∨ PySem.W.Looks (model X.prog X.w) s.heap (isSubtype tb (.ref C)) false) := by
    rcases ht with ⟨T, hT, b⟩ | ⟨b, C', dy, gs, rfl, eb, nf⟩
    · exact ⟨_, looks_is (b.is I ry), .inr (PySem.W.looks_subIn I.kIn (sub_type hT))⟩
    · cases (show u = Value.ref b from ry)
      obtain ⟨_, _, J'⟩ := ins_inst I eb
      refine ⟨_, J'.type, ?_⟩
      unfold PySem.W.notFirst at nf
      rw [Bool.or_eq_true] at nf
      rcases nf with nf | nf
      · exact .inl (by simpa using (show (C' = C) by simpa using nf.symm).symm)
      · exact .inr (PySem.W.looks_subIn I.kIn (by simpa using nf))
  refine PySem.W.cmp_ofNotEq (rich_of hr.units0 (oneThing_ref _ _ _) J.type htb hsub (try_neO (by have := hr.un; show X.A.units + 1 < cLine; omega) I.kIn J hn hm h1 h2 (wpAny_mono h3 (fun r s2 q => ?_) fun _ _ z => z)))
  obtain ⟨z, H', I', rz, c, rfl, q⟩ := q
  exact ⟨c, rz, .bl (!c), H', I', rfl, q⟩
end
end L2

/-! Classmethods; a class held by a local name. -/
namespace L2
open PySem PySem.Spec PyProof.Rows
/-- a classmethod of an own class, with its promise -/
structure CalS (P : Program) (w : World) (K : PySem.W.Frag) (mg : Str → Option Value) (base : Heap) (k : Nat) (C : Addr) (m : Str) (sp : Sp) : Prop where
  ex : ∃ (mc : Value) (p g : Addr) (fd : FuncData) (ps : List Str), ClX.CRead K C mc ∧ ClX.CMet K C mc m p g ∧ FnOk P w K mg base (L2N.CX P w) k g fd ps sp ∧ Binds K fd ps []
section
variable {X : Cx} {P : Program} {w : World} {K : PySem.W.Frag} {mg : Str → Option Value} {base : Heap} {A : Around} {σ : St} {H : Hp} {Q : VK} {C : Addr} {m : Str} {k j : Nat} {sp : Sp} {e o : Expr} {es : List Expr} {pos apos p : Pos}
theorem s_cmeth {pl : Sem Bool} (c : CalS P w K mg base k C m sp) (hr : Room j A) (hk : k ≤ j) (hX : XIs X P w K mg base A) (h : ZE X o σ H fun x H1 => x = .ref C ∧ ZA X (e :: es) σ H1 fun vs H2 => sp (.ref C :: vs) H2 Q fun cls d H' => XW X cls d σ H')
    (hst : starEach (e :: es) X.env = (false, eval e X.env) :: starEach es X.env) (hpl : (backTo pos (starEach es X.env)).any (·.1) = false)
    (ht : eval (.Call (.Attribute o m apos) (e :: es) [] pos) X.env = (do
      let ov ← eval o X.env
      standAt apos.atName
      let (f, first) ← holding [ov] (getMethod ov m pl)
      callWith pos f first (backTo pos (starEach (e :: es) X.env)) (backToKw pos (keywordEach [] X.env)))) : ZE X (.Call (.Attribute o m apos) (e :: es) [] pos) σ H Q := by
  obtain ⟨rfl, rfl, rfl, rfl, rfl, rfl⟩ := hX
  obtain ⟨mc, pm, g, fd, ps, rd, cm, F, hb⟩ := c.ex
  refine ⟨fun pins s I => ?_⟩
  refine PySem.W.methodCall_KW (pl := pl) (thn (h.run pins s I) fun u s1 ⟨x, H1, I1, rx, ex, q⟩ => ?_) ht
  subst ex
  obtain rfl : u = Value.ref C := rx
  refine ClX.getmethcm_ok I1 rd cm fun s2 I2 => ?_
  refine ClX.callwith_cm I2 (ClX.base_none I1 (Nat.le_refl _)) cm.fi (thn (q.run pos _ s2 I2) fun us s3 ⟨vs, H2, I3, r, q2⟩ => ⟨⟨ClX.pin_at I3, I3.kIn⟩, ?_⟩) hst hpl
  have rr : Vals (V.ref C :: vs) (Value.ref C :: us) := .cons rfl r
  have hl : (Value.ref C :: us).length = ps.length := by rw [← rr.length]; exact F.len _ _ _ _ q2
  have I3' := ClX.unpin I3
  refine wpAny_call (ks_codeAny_call_bound (ClX.pin_at I3) ?_)
  refine codeAny_mono (F.run X.A X.stack s3 H2 ⟨Value.ref C :: us, []⟩ (Value.ref C :: us) (V.ref C :: vs) Q _ (hr.mono hk) I3'.env0 (by have := hb s3 (Value.ref C :: us) I3'.kIn (by rw [List.append_nil]; exact hl); rwa [List.append_nil] at this) rr q2) fun r s' hq => ?_
  cases r with
  | error e => exact takes_xw e s' (L2N.XE.of_call I3' (fun cls d H' w => w) hq)
  | ok fl =>
    cases fl with
    | ret u => exact I3'.after hq
    | next => exact False.elim hq
    | brk => exact False.elim hq
    | cont => exact False.elim hq
/-- x(..), x a local name that holds an own class -/
theorem s_makeL {N : List Str} {M : Nat} {sc : Scope} {x y : Str} {i : Nat} (S : NOk N M sc) (at_ : At N σ x i (.ref C)) (hi : i < M) (hN : X.N = N ∧ X.env.scope = sc) (c : CalC P w K mg base k y C sp) (hr : Room j A) (hk : k + 1 ≤ j) (hX : XIs X P w K mg base A)
    (h : ZA X (e :: es) σ H fun vs H1 => ∀ a dx, NoA H1 a → NoA H1 dx → dx ≠ a → sp (.ref a :: vs) (upd (upd H1 dx (.own a)) a (.ins C dx [])) (fun v H2 => v = .non ∧ Q (.ref a) H2) (fun cls d H' => XW X cls d σ H'))
    (he : starEach (e :: es) X.env = (false, eval e X.env) :: starEach es X.env) (hpl : (backTo pos (starEach es X.env)).any (·.1) = false) : ZE X (.Call (.Name x p) (e :: es) [] pos) σ H Q := by
  obtain ⟨rfl, rfl, rfl, rfl, rfl, rfl⟩ := hX
  obtain ⟨f, fd, ps, sp0, M, F, gm, im⟩ := c.ex
  refine ⟨fun pins s I => ?_⟩
  refine wpAny_Call_Name_kw (thn ((s_name (pos := p) (H := H) (Q := fun v H' => v = .ref C ∧ H' = H) S at_ hi hN ⟨rfl, rfl⟩).run pins s I) fun u s1 ⟨v, H1, I1, rv, ev, eh⟩ => ?_)
  subst ev
  subst eh
  obtain rfl : u = Value.ref C := rv
  refine PySem.W.callWith_K (h₀ := X.base) I1.ok.mod.kin M.kp (thn (h.run pos pins s1 I1) fun us s2 ⟨vs, H2, I2, r, q⟩ => ⟨I2.kIn, ?_⟩) he hpl
  exact mrun M F (hr.mono hk) I2 r fun a dx n1 n2 ne => im (.ref a :: vs) _ _ _ (q a dx n1 n2 ne)
end
/-- a statement by its own end -/
theorem zs_cut {X : Cx} {st : Stmt} {nx bk ct : NX} {rt : VK} {σ : St} {H : Hp} (Iv : St → Hp → Prop) (h1 : ∀ nx' : NX, (∀ σ1 H1, Iv σ1 H1 → nx' σ1 H1) → ZS X st nx' rt bk ct σ H) (h2 : ∀ σ1 H1, Iv σ1 H1 → nx σ1 H1) : ZS X st nx rt bk ct σ H := h1 _ h2
end L2

namespace Law
open PySem PySem.Spec PyProof.Rows L2

/-! One step by the syntax of the goal ("z"); as many as go by themselves ("zz"); with both ways of a test ("za"). The carrier is the word «fail» with a text. -/
local macro_rules | `(tactic| fail "at") => `(tactic| with_reducible (repeat (first | exact At.here | apply At.there)))
local macro_rules | `(tactic| fail "sat") => `(tactic| with_reducible (repeat (first | exact SetAt.here | apply SetAt.there)))
local macro_rules | `(tactic| fail "ztk") => `(tactic| first | exact Trk.put | exact Trk.of (by assumption) | exact Trk.src (by assumption) | (refine Trk.up ?_; fail "ztk") | (refine Trk.same (by assumption) ?_; fail "ztk"))
local macro_rules | `(tactic| fail "zne") => `(tactic| first | assumption | exact Ne.symm (by assumption) | (refine Trk.ne ?_ (by assumption); fail "ztk") | (refine Ne.symm (Trk.ne ?_ (by assumption)); fail "ztk"))
local macro_rules | `(tactic| fail "zh") => `(tactic| first | assumption | exact upd_same | (refine' Eq.trans (upd_ne ?hne) ?_; (case hne => fail "zne"); fail "zh") | (refine Same.get (by assumption) ?_; fail "zh"))
local macro_rules | `(tactic| fail "zle") => `(tactic| first | exact Nat.le_of_ble_eq_true rfl | fail "zside")
local macro_rules | `(tactic| fail "zno") => `(tactic| first | assumption | exact NoA.e (by assumption) | (refine NoA.free ?_ (by assumption); fail "zsm"))
local macro_rules | `(tactic| fail "zsm") => `(tactic| first | assumption | exact Same.refl _ | (refine Same.put ?_ ?_; (fail "zsm"); (fail "zno")) | (refine Same.new ?_ ?_; (fail "zsm"); (fail "zno")) | (refine Same.trans ?_ (by assumption); fail "zsm"))
local macro_rules | `(tactic| fail "zty") => `(tactic| first | exact .base (.int _) | exact .base (.bl _) | exact .base (.str _) | exact .base .non | (refine' .base (.lst ?e); (case e => fail "zh")) | (refine' .base (.tup ?e); (case e => fail "zh")) | assumption)
local macro_rules | `(tactic| fail "zkb") => `(tactic| first | exact (show kitB _ _ = some true by decide +kernel) | exact (show kitB _ _ = some false by decide +kernel))
local macro_rules | `(tactic| fail "zq") => `(tactic| first | (refine' Or.inl (SqL.of ?hp); (case hp => fail "zh")) | (refine' Or.inr (SqT.of ?hp); (case hp => fail "zh")) | exact Or.inr (by assumption) | exact Or.inl (by assumption) | exact Or.inl (Same.seq (by assumption) (by assumption)) | (refine' Or.inr ((?f : ∀ H', SqT _ H' _ _) _); (case f => assumption)))
local macro_rules | `(tactic| fail "zside") => `(tactic| first | (with_reducible assumption) | omega | assumption | decide)
local macro_rules | `(tactic| fail "zx") => `(tactic| first
  | (refine' xw_lst (SqL.of ?hp) ?hi ?_; (case hp => fail "zh"); (case hi => rfl)) | (refine' xw_tup (SqT.of ?hp) ?hi ?_; (case hp => fail "zh"); (case hi => rfl)))
local macro_rules | `(tactic| fail "zS") => `(tactic| first
  | (with_reducible refine zs_if ?_) | (with_reducible refine zs_ret ?_)
  | ((with_reducible refine' s_set ‹NOk _ _ _› ?hN ?hf ?k ?hs); (case hN => exact ⟨rfl, rfl⟩); (case hf => rfl); (case hs => rfl))
  | ((with_reducible refine' s_expr ?k ?hs); (case hs => rfl))
  | ((with_reducible refine' s_attrS ?k ?hs); (case hs => rfl))
  | ((with_reducible refine' s_asg ?k ?hs ?hw ?h1); (case hs => rfl); (case hw => rfl); (case h1 => rfl))
  | ((with_reducible refine' s_raise ?c ‹Room _ _› ?hX ?hc ?k ?hg ?hdb ?he ?hpl); (case c => (with_reducible assumption)); (case hX => exact ⟨rfl, rfl, rfl, rfl, rfl, rfl⟩); (case hc => rfl); (case hg => rfl); (case hdb => decide); (case he => rfl); (case hpl => rfl))
  | ((with_reducible refine' s_raise0 ?c ?hX ?hc ?k ?hg ?hdb); (case c => (with_reducible assumption)); (case hX => exact ⟨rfl, rfl, rfl, rfl, rfl, rfl⟩); (case hc => rfl); (case hg => rfl); (case hdb => decide))
  | (with_reducible refine zs_pass ?_) | (with_reducible refine zs_retN ?_) | (with_reducible refine zs_break ?_) | (with_reducible refine zs_continue ?_))
local macro_rules | `(tactic| fail "zlev") => `(tactic| first | decide | exact Nat.le_refl _ | omega)
local macro_rules | `(tactic| fail "zbf") => `(tactic| with_reducible first | exact BFn.len | exact BFn.abs | exact BFn.isi | exact BFn.max | exact BFn.min | exact BFn.dm)
local macro_rules | `(tactic| fail "zbt") => `(tactic| with_reducible first | exact BTy.int | exact BTy.boo | exact BTy.str | exact BTy.tup | exact BTy.lst | exact BTy.ve)
local macro_rules | `(tactic| fail "zbm") => `(tactic| with_reducible first | exact BM.startswith | exact BM.upper | exact BM.index | exact BM.append | exact BM.join | exact BM.lower | exact BM.strip | exact BM.find | exact BM.count | exact BM.split | exact BM.endswith | exact BM.isdigit | exact BM.isalpha | exact BM.partition | exact BM.rstrip | exact BM.lstrip | exact BM.isspace | exact BM.isalnum)
local macro_rules | `(tactic| fail "zM") => `(tactic| first
  | ((with_reducible refine' s_bm ?f ?k ?hb ?hl ?hfew ?hs ?hpl); (case f => fail "zbm"); (case hb => rfl); (case hl => rfl); (case hfew => rfl); (case hs => rfl); (case hpl => rfl))
  | ((with_reducible refine' s_bm0 ?f ?k ?hb ?hl); (case f => fail "zbm"); (case hb => rfl); (case hl => rfl))
  | ((with_reducible refine' s_meth ?cm ?cl ‹Room _ _› ?hk ?hX ?k ?hs ?hp ?ht); (case cm => (with_reducible assumption)); (case cl => assumption); (case hk => fail "zlev"); (case hX => exact ⟨rfl, rfl, rfl, rfl, rfl, rfl⟩); (case hs => rfl); (case hp => rfl); (case ht => rfl))
  | ((with_reducible refine' s_meth0 ?cm ?cl ‹Room _ _› ?hk ?hX ?k ?ht); (case cm => (with_reducible assumption)); (case cl => assumption); (case hk => fail "zlev"); (case hX => exact ⟨rfl, rfl, rfl, rfl, rfl, rfl⟩); (case ht => rfl)))
local macro_rules | `(tactic| fail "zC") => `(tactic| first
  | ((with_reducible refine' s_callB ?f ‹Blt _› ?hB ?k ?hg ?he ?hpl); (case f => fail "zbf"); (case hB => rfl); (case hg => rfl); (case he => rfl); (case hpl => rfl))
  | ((with_reducible refine' s_callT ?f ‹Blt _› ?hB ?k ?hg ?he ?hpl); (case f => fail "zbt"); (case hB => rfl); (case hg => rfl); (case he => rfl); (case hpl => rfl)))
local macro_rules | `(tactic| fail "zD") => `(tactic| first
  | ((with_reducible refine' s_call ?c ‹Room _ _› ?hk ?hX ?k ?hg ?hdb ?he ?hpl); (case c => (with_reducible assumption)); (case hk => first | decide | exact Nat.le_refl _ | omega); (case hX => exact ⟨rfl, rfl, rfl, rfl, rfl, rfl⟩); (case hg => rfl); (case hdb => decide); (case he => rfl); (case hpl => rfl))
  | ((with_reducible refine' s_callH ?c (by assumption) (by assumption) ‹Room _ _› ?hk ?hX ?k ?hg ?hdb ?he ?hpl); (case c => (with_reducible assumption)); (case hk => first | decide | exact Nat.le_refl _ | omega); (case hX => exact ⟨rfl, rfl, rfl, rfl, rfl, rfl⟩); (case hg => rfl); (case hdb => decide); (case he => rfl); (case hpl => rfl))
  | ((with_reducible refine' s_make ?c ‹Room _ _› ?hk ?hX ?k ?hg ?hdb ?he ?hpl); (case c => (with_reducible assumption)); (case hk => first | decide | exact Nat.le_refl _ | omega); (case hX => exact ⟨rfl, rfl, rfl, rfl, rfl, rfl⟩); (case hg => rfl); (case hdb => decide); (case he => rfl); (case hpl => rfl))
  | ((with_reducible refine' s_makeK ?c ‹Room _ _› ?hk ?hX ?k ?hg ?hall ?hks ?hdb ?he ?hpl); (case hks => rfl); (case c => assumption); (case hk => fail "zlev"); (case hX => exact ⟨rfl, rfl, rfl, rfl, rfl, rfl⟩); (case hg => rfl); (case hall => rfl); (case hdb => decide); (case he => rfl); (case hpl => rfl))
  | ((with_reducible refine' s_call0 ?c ‹Room _ _› ?hk ?hX ?k ?hg ?hdb); (case c => (with_reducible assumption)); (case hk => first | decide | exact Nat.le_refl _ | omega); (case hX => exact ⟨rfl, rfl, rfl, rfl, rfl, rfl⟩); (case hg => rfl); (case hdb => decide)))
local macro_rules | `(tactic| fail "zn") => `(tactic| first
  | ((with_reducible refine' s_name ‹NOk _ _ _› ?ha ?hi ?hN ?k); (case ha => fail "at"); (case hi => decide); (case hN => exact ⟨rfl, rfl⟩))
  | ((with_reducible refine' s_bty ?f ‹Blt _› ?hB ?hg ?k); (case f => fail "zbt"); (case hB => rfl); (case hg => rfl))
  | ((with_reducible refine' s_gref ?hm ?hB ?hg ?hd ?k); (case hm => (with_reducible assumption)); (case hB => rfl); (case hg => rfl); (case hd => decide))
  | ((with_reducible refine' b_name ‹NOk _ _ _› ?hN ?ha ?hv ?hd ?hcd ?k); (case hN => rfl); (case ha => fail "at"); (case hv => first | exact Or.inl rfl | exact Or.inr (Or.inl rfl) | exact Or.inr (Or.inr rfl)); (case hd => decide); (case hcd => decide)))
local macro_rules | `(tactic| fail "zE") => `(tactic| first
  | ((with_reducible show ZE _ (Expr.Name _ _) _ _ _); fail "zn")
  | (with_reducible refine ze_int ?_) | (with_reducible refine ze_str ?_)
  | (with_reducible refine ze_op ?_)
  | ((with_reducible refine ze_slice ?_))
  | ((with_reducible refine' s_sub ?k ?hs); (case hs => exact fun _ _ => rfl))
  | ((with_reducible refine' ze_cmp ?hm ?k); (case hm => first | exact nomark _ | rfl))
  | ((with_reducible refine' s_attr ?k ?hb); (case hb => rfl))
  | ((with_reducible show ZE _ (Expr.Call (Expr.Name _ _) _ _ _) _ _ _); first | fail "zC" | fail "zD")
  | ((with_reducible show ZE _ (Expr.Call (Expr.Attribute _ _ _) _ _ _) _ _ _); fail "zM")
  | (with_reducible refine ze_bl ?_) | (with_reducible refine ze_non ?_)
  | (with_reducible refine ze_notV ?_) | (with_reducible refine ze_un ?_) | (with_reducible refine ze_and ?_) | (with_reducible refine ze_or ?_) | (with_reducible refine ze_and1 ?_) | (with_reducible refine ze_if ?_)
  | ((with_reducible refine' ze_chain ?hm ?k); (case hm => rfl))
  | (with_reducible refine ze_lst ?_) | (with_reducible refine ze_tup ?_))
local macro_rules | `(tactic| fail "zT") => `(tactic| first
  | ((with_reducible refine' zt_cmp ?hm ?k); (case hm => first | exact nomark _ | rfl))
  | (with_reducible refine zt_not ?_) | (with_reducible refine zt_and ?_) | (with_reducible refine zt_or ?_)
  | ((with_reducible refine' zt_chain ?hm ?k); (case hm => rfl))
  | ((with_reducible refine' s_val ?k ?he); (case he => (intro _; rfl))))
local macro_rules | `(tactic| fail "zdp") => `(tactic| first | exact Dp.int _ | exact Dp.str _ | exact Dp.bl _ | exact Dp.non | (refine' Dp.lst (SqL.of ?hh) ?kk; (case hh => fail "zh"); (case kk => fail "zdpa")) | (refine' Dp.tup (SqT.of ?hh) ?kk; (case hh => fail "zh"); (case kk => fail "zdpa")))
local macro_rules | `(tactic| fail "zdpa") => `(tactic| first | exact DpAll.nil | (refine' DpAll.cons ?hh ?kk; (case hh => fail "zdp"); (case kk => fail "zdpa")))
local macro_rules | `(tactic| fail "zO") => `(tactic| first
  | (with_reducible refine ow_add ?_) | (with_reducible refine ow_sub ?_) | (with_reducible refine ow_eqi ?_) | (with_reducible refine ow_nei ?_) | (with_reducible refine ow_lt ?_) | (with_reducible refine ow_le ?_) | (with_reducible refine ow_gt ?_) | (with_reducible refine ow_ge ?_)
  | (with_reducible refine ow_eqs ?_) | (with_reducible refine ow_nes ?_) | (with_reducible refine ow_isN ?_) | (with_reducible refine ow_notN ?_) | (with_reducible refine ow_eqb ?_) | (with_reducible refine ow_neb ?_)
  | ((with_reducible refine' ow_eqD ?hu ?hx ?hy ?h1 ?h2 ?hr ?k); (case hu => (have hu := Room.u64 (‹Room _ _›); exact hu)); (case hx => fail "zdp"); (case hy => fail "zdp"); (case h1 => rfl); (case h2 => rfl); (case hr => first | exact (show PyData.eqv _ _ = true from rfl) | exact (show PyData.eqv _ _ = false from rfl) | (refine (show PyData.eqv _ _ = true from ?_); simp only [PyData.eqv, PyData.eqvAll, beq_self_eq_true, Bool.and_self, Bool.and_true])))
  | ((with_reducible refine' ow_addl ?h1 ?h2 ?hc (intro_no fun _ _ => ?k)); (case h1 => fail "zh"); (case h2 => fail "zh"); (first | (case hc => fail "zle") | skip))
  | ((with_reducible refine' ow_adds ?hc ?k); (first | (case hc => fail "zle") | skip))
  | ((with_reducible refine' ow_in ?hs ?hx ?ha ?k); (case hs => fail "zq"); (case hx => rfl); (case ha => rfl)) | ((with_reducible refine' ow_notin ?hs ?hx ?ha ?k); (case hs => fail "zq"); (case hx => rfl); (case ha => rfl))
  | ((with_reducible refine' ow_mod ?hc ?k); (case hc => fail "zside")) | ((with_reducible refine' ow_fdiv ?hc ?k); (case hc => exact ⟨by fail "zside", by fail "zside"⟩))
  | ((with_reducible refine' ow_mul ?hc ?k); (case hc => first | exact .inr ⟨by fail "zside", by fail "zside"⟩ | exact .inl ⟨by fail "zside", by fail "zside"⟩))
  | (with_reducible refine' ow_mulW ?hc ?k)
  | (with_reducible refine' ow_fdivW ?hc ?k)
  | ((with_reducible refine' ow_pow ?hc ?k); (case hc => exact ⟨by fail "zside", by fail "zside", by fail "zside"⟩)))
local macro_rules | `(tactic| fail "zbin") => `(tactic| with_reducible first | exact BinM.add | exact BinM.sub | exact BinM.mul | exact BinM.fdiv | exact BinM.mod | exact BinM.pow | exact BinM.shl | exact BinM.shr | exact BinM.div | exact BinM.band)
local macro_rules | `(tactic| fail "zcm") => `(tactic| with_reducible first | exact CmpM.lt | exact CmpM.le | exact CmpM.gt | exact CmpM.ge | exact CmpM.eq)
local macro_rules | `(tactic| fail "zOwn") => `(tactic| first
  | ((with_reducible refine' ow_bin ?bm ?cm ?hc ‹Room _ _› ?hk ?hX ?ea ?eb ?k); (case bm => fail "zbin"); (case ea => fail "zh"); (case eb => fail "zh"); (case cm => (with_reducible assumption)); (case hc => assumption); (case hk => fail "zlev"); (case hX => exact ⟨rfl, rfl, rfl, rfl, rfl, rfl⟩))
  | ((with_reducible refine' ow_binI ?bm ?cm ?hc ?T ‹Room _ _› ?hk ?hX ?ea ?k); (case bm => fail "zbin"); (case ea => fail "zh"); (case cm => (with_reducible assumption)); (case hc => assumption); (case T => assumption); (case hk => fail "zlev"); (case hX => exact ⟨rfl, rfl, rfl, rfl, rfl, rfl⟩))
  | ((with_reducible refine' ow_inO ?cm ‹Room _ _› ?hk ?hX ?ea ?k); (case ea => fail "zh"); (case cm => (with_reducible assumption)); (case hk => fail "zlev"); (case hX => exact ⟨rfl, rfl, rfl, rfl, rfl, rfl⟩))
  | ((with_reducible refine' ow_cmpO ?bm ?cm ‹Room _ _› ?hk ?hX ?ea ?eb ?k); (case bm => fail "zcm"); (case ea => fail "zh"); (case eb => fail "zh"); (case cm => (with_reducible assumption)); (case hk => fail "zlev"); (case hX => exact ⟨rfl, rfl, rfl, rfl, rfl, rfl⟩)))
local macro_rules | `(tactic| fail "z") => `(tactic| first
  | ((with_reducible show ZE _ _ _ _ _); fail "zE")
  | ((with_reducible show OpW _ _ _ _ _ _ _); first | fail "zO" | fail "zOwn")
  | (with_reducible refine ⟨_, rfl, ?_⟩)
  | ((with_reducible refine' s_setAt ?sa ?hi ?k); (case sa => fail "sat"); (case hi => decide))
  | ((with_reducible show ZSs _ _ _ _ _ _ _ _); with_reducible (first | refine zss_one ?_ | refine zss_cons ?_ | refine zss_nil ?_))
  | ((with_reducible show ZS _ _ _ _ _ _ _ _); fail "zS")
  | ((with_reducible show ZT _ _ _ _ _); fail "zT")
  | ((with_reducible show ZW _ _ _ _ _); with_reducible (first | refine zw_and ?_ | refine zw_or ?_ | refine zw_and1 ?_ | refine zw_or1 ?_))
  | ((with_reducible show ZA _ _ _ _ _); first | ((with_reducible refine' s_cons ?k ?hs); (case hs => rfl)) | (with_reducible refine za_nil ?_))
  | ((with_reducible show CallW _ _ _ _ _); first | ((with_reducible refine' cw_isx (by assumption) (by assumption) ?hc ?T ?hd ?hv ?hk ?_); (case hc => rfl); (case T => assumption); (case hd => first | exact Or.inl rfl | exact Or.inr ⟨_, _, rfl, by fail "zh"⟩); (case hv => first | exact .own _ | exact .ty _); (case hk => assumption)) | ((with_reducible refine' cw_isb ?hx ?hk ?_); (case hx => fail "zty"); (case hk => fail "zkb")) | ((with_reducible refine' cw_isi (.ty _) ?hx ?hk ?_); (case hx => exact ClsI.ty (by assumption) (by fail "zh")); (case hk => assumption)) | ((with_reducible refine' cw_isi (.own _) ?hx ?hk ?_); (case hx => first | exact ClsI.ty (by assumption) (by fail "zh") | fail "zty"); (case hk => first | exact kit_self | assumption)) | (with_reducible refine cw_int ?_) | ((with_reducible refine' cw_tuple ?hs (intro_no fun _ _ => ?_)); (case hs => first | exact SqL.of (by fail "zh") | assumption)) | ((with_reducible refine' cw_divmod ?hc (intro_no fun _ _ => ?_)); (case hc => exact ⟨by fail "zside", by fail "zside"⟩)) | ((with_reducible refine' cw_list ?hs (intro_no fun _ _ => ?_)); (case hs => fail "zq")) | ((with_reducible refine' cw_min2 ?hc ?k); (case hc => rfl)) | ((with_reducible refine' cw_max2 ?hc ?k); (case hc => rfl)) | (with_reducible refine cw_abs ?_) | ((with_reducible refine' cw_absO ?cm ‹Room _ _› ?hk ?hX ?ea ?k); (case ea => fail "zh"); (case cm => (with_reducible assumption)); (case hk => fail "zlev"); (case hX => exact ⟨rfl, rfl, rfl, rfl, rfl, rfl⟩)) | (with_reducible refine cw_intb ?_) | ((with_reducible refine' cw_lenq ?hs ?k); (case hs => fail "zq")) | ((with_reducible refine' cw_lens ?hs ?k); (first | (case hs => fail "zle") | skip)))
  | ((with_reducible show IxW _ _ _ _ _ _); fail "zx")
  | ((with_reducible show MtW _ _ _ _ _ _); first | (with_reducible refine mw_startswith ?_) | (with_reducible refine mw_endswith ?_) | (with_reducible refine mw_find ?_) | (with_reducible refine mw_count ?_) | ((with_reducible refine' mw_upper ?hz ?k); (first | (case hz => fail "zle") | skip)) | ((with_reducible refine' mw_lower ?hz ?k); (first | (case hz => fail "zle") | skip)) | ((with_reducible refine' mw_split ?hz2 ?hz (fun _ _ => ?k)); (case hz2 => decide); (first | (case hz => fail "zle") | skip)) | ((with_reducible refine' mw_append ?hs ?hz ?k); (case hs => fail "zh"); (first | (case hz => fail "zside") | skip)))
  | ((with_reducible show tyV _ _ _ _ ∧ _); refine And.intro (by first | exact rfl | exact Or.inl ⟨rfl, _, SqL.of (by fail "zh")⟩ | exact Or.inl ⟨rfl, _, by assumption⟩) ?_)
  | ((with_reducible show V.non = V.non ∧ _); refine And.intro rfl ?_)
  | (with_reducible refine zk_cons ?_) | (with_reducible refine zk_nil ?_)
  | ((with_reducible show List.length _ = _ ∧ List.length _ = _ ∧ _); refine ⟨rfl, rfl, ?_⟩)
  | ((with_reducible refine' OwnAt.do ?e ?l ?k); (case e => fail "zh"); (case l => rfl))
  | ((with_reducible show _ ≤ sizeLine ∧ _); refine And.intro (by fail "zle") ?_)
  | ((with_reducible show ∀ p, _ = none → _); refine intro_no (fun _ _ => ?_))
  | ((with_reducible show List.length _ = List.length _ ∧ _ ∧ _); refine ⟨rfl, Nat.le_of_ble_eq_true rfl, ?_⟩)
  | (with_reducible refine xw_def ?_)
  | ((with_reducible show ZO _ _ _ _ _); with_reducible (first | refine zo_none ?_ | refine zo_some ?_))
  | ((with_reducible show SlW _ _ _ _ _ _); first | ((with_reducible refine' slw_str ?hz ?k); (first | (case hz => fail "zle") | skip)) | ((with_reducible refine' slw_lst ?hs (intro_no fun _ _ => ?k)); (case hs => first | exact SqL.of (by fail "zh") | assumption)))
  | fail "zP"
  | ((with_reducible show SetW _ _ _ _ _ _); refine' sw_lst ?hp ?hi ?_; (case hp => fail "zh"); (case hi => rfl))
  | ((with_reducible show ZG _ (Expr.Tuple _ _ _) _ _ _ _); first | (refine zg_tup rfl ?_; refine ⟨_, _, rfl, SqT.of (by fail "zh"), rfl, ?_⟩) | (refine zg_lst rfl ?_; refine ⟨_, _, rfl, SqL.of (by fail "zh"), rfl, ?_⟩))
  | ((with_reducible show ZG _ _ _ _ _ _); first | ((with_reducible refine' s_gsub ?k ?ha); (case ha => (intro _; rfl))) | ((with_reducible refine' s_gname ‹NOk _ _ _› ?sa ?hi ?hN ?hf ?k); (case sa => fail "sat"); (case hi => decide); (case hN => exact ⟨rfl, rfl⟩); (case hf => rfl)) | ((with_reducible refine' b_gname ‹NOk _ _ _› ?hN ?sa ?hx ?hf ?k); (case hN => rfl); (case sa => fail "sat"); (case hx => first | exact Or.inl rfl | exact Or.inr rfl); (case hf => first | exact .inl rfl | exact .inr rfl)))
  | ((with_reducible show ZA1 _ _ _ _ _); first | ((with_reducible refine' za1_cons ?k ?hs); (case hs => rfl)) | (with_reducible refine za1_nil ?_))
  | ((with_reducible show ZE1 _ _ _ _ _); first | refine ze1_repl ?_ | (with_reducible refine ze1_of ?_))
  | ((with_reducible show _ ≤ 16777216 ∧ _); refine And.intro ?_ ?_)
  | ((with_reducible show AtW _ _ _ _ _); first
      | ((with_reducible refine' aw_xd (by assumption) (by assumption) ?hc ?hd ?T ?hno ?ea ?l ?q); (case hc => rfl); (case hd => rfl); (case T => assumption); (case hno => assumption); (case ea => fail "zh"); (case l => rfl))
      | ((with_reducible refine' aw_fld ?e ?c ?n ?l ?q); (case e => fail "zh"); (case c => assumption); (case n => assumption); (case l => rfl))
      | ((with_reducible refine' aw_cval ?r ?k ?q); (case k => assumption); (case r => assumption))
      | ((with_reducible refine' aw_prop ?c ?cl ‹Room _ _› ?hk ?hX ?e ?k); (case c => (with_reducible assumption)); (case e => fail "zh"); (case cl => assumption); (case hk => first | decide | exact Nat.le_refl _ | omega); (case hX => exact ⟨rfl, rfl, rfl, rfl, rfl, rfl⟩)))
  | ((with_reducible show ∃ p C dx fs, _ = V.ref p ∧ _); refine ⟨_, _, _, _, rfl, by fail "zh", by assumption, by assumption, Nat.le_of_ble_eq_true rfl, ?_⟩)
  | ((with_reducible show ∀ a dx, NoA _ a → _); intro _ _ _ _ _)
  | ((with_reducible show UnW _ _ _ _ _); refine uw_neg ?_)
  | (with_reducible refine zgs_nil ?_) | refine zgs_cons ?_)
local macro_rules | `(tactic| fail "zbk") => `(tactic| simp only [reduceCtorEq, decide_true, decide_false, Bool.not_true, Bool.not_false, Bool.true_eq_false, Bool.false_eq_true, not_false_eq_true, not_true_eq_false])
local macro_rules | `(tactic| fail "zi") => `(tactic| first
  | ((with_reducible refine' iteP ?h ?_); (case h => fail "zbk")) | ((with_reducible refine' iteN ?h ?_); (case h => fail "zbk"))
  | (with_reducible refine iteT ?_) | (with_reducible refine iteF ?_) | (with_reducible refine zite_d (fun hc => ?_) (fun hc => ?_)) | (with_reducible refine zite_n (fun hc => ?_) (fun hc => ?_)) | (with_reducible refine zite_nb (fun hc => ?_) (fun hc => ?_)) | (with_reducible refine zite_b (fun hc => ?_) (fun hc => ?_)))
local macro_rules | `(tactic| fail "zz") => `(tactic| repeat (first | fail "z" | (with_reducible refine iteT ?_) | (with_reducible refine iteF ?_)))
local macro_rules | `(tactic| fail "za") => `(tactic| repeat' (first | fail "z" | fail "zi"))
local macro_rules | `(tactic| fail "z0") => `(tactic| ((first | refine zss_one ?_ | refine zss_cons ?_); fail "za"))
local macro_rules | `(tactic| fail "zsrc") => `(tactic| first | assumption | (refine Src.same (by assumption) ?_; fail "zsrc") | (refine Src.same (Same.new (Same.refl _) (NoA.e (by assumption))) ?_; fail "zsrc") | (refine Src.same ?_ (by assumption); fail "zsm"))
local macro_rules | `(tactic| fail "zP") => `(tactic| (with_reducible refine' draw_do ?h1 ?h2 ?h3 (fun _ _ _ => ?h)); (first | (case h1 => fail "zside") | skip); (first | (case h2 => fail "zside") | skip); (case h3 => fail "zsrc"))
local macro_rules | `(tactic| fail "zsc") => `(tactic| with_reducible first | exact Sc.mapS | exact Sc.mapI | exact Sc.nil | (refine Sc.app ?_ ?_ <;> fail "zsc") | (refine Sc.cons (by first | exact .bl _ | exact .str _ | exact .int _ | exact .non) ?_; fail "zsc"))
variable {P : Program} {w : World} {K : PySem.W.Frag} {mg : Str → Option Value} {base : Heap}

def topS (i : Nat) : Stmt := PySem.Challenge.pw_lostpart_k12_grids_refused.main.body.getD i (.Pass ⟨0, 0, 0, 0⟩)
abbrev S__wall : Stmt := topS 0
abbrev N__wall : List Str := ["k"]
theorem sc__wall : FnScope ["k"] ["k"] (defScope S__wall) := ⟨rfl, rfl, rfl, by decide +kernel, rfl, by decide +kernel, by decide +kernel⟩
theorem nk__wall : NOk ["k"] 1 (defScope S__wall) := ⟨sc__wall.nd, by decide +kernel⟩
abbrev S_BadBase___init__ : Stmt := inClass (topS 3) 0
abbrev N_BadBase___init__ : List Str := ["self", "base"]
abbrev S_BadGrid___init__ : Stmt := inClass (topS 4) 0
abbrev N_BadGrid___init__ : List Str := ["self", "what"]
abbrev S_MixedBases___init__ : Stmt := inClass (topS 5) 0
abbrev N_MixedBases___init__ : List Str := ["self", "left", "right"]
abbrev S_NoPower___init__ : Stmt := inClass (topS 7) 0
abbrev N_NoPower___init__ : List Str := ["self", "power"]
abbrev S_power : Stmt := topS 9
abbrev N_power : List Str := ["base", "count", "result", "square"]
theorem sc_power : FnScope ["base", "count", "result", "square"] ["base", "count"] (defScope S_power) := ⟨rfl, rfl, rfl, by decide +kernel, rfl, by decide +kernel, by decide +kernel⟩
theorem nk_power : NOk ["base", "count", "result", "square"] 4 (defScope S_power) := ⟨sc_power.nd, by decide +kernel⟩
abbrev S_squares_up_to : Stmt := topS 10
abbrev N_squares_up_to : List Str := ["base", "size", "squares", "square"]
theorem sc_squares_up_to : FnScope ["base", "size", "squares", "square"] ["base", "size"] (defScope S_squares_up_to) := ⟨rfl, rfl, rfl, by decide +kernel, rfl, by decide +kernel, by decide +kernel⟩
theorem nk_squares_up_to : NOk ["base", "size", "squares", "square"] 4 (defScope S_squares_up_to) := ⟨sc_squares_up_to.nd, by decide +kernel⟩
abbrev S_count_digits : Stmt := topS 11
abbrev N_count_digits : List Str := ["base", "coefficient", "rest", "squares", "count", "k"]
theorem sc_count_digits : FnScope ["base", "coefficient", "rest", "squares", "count", "k"] ["base", "coefficient"] (defScope S_count_digits) := ⟨rfl, rfl, rfl, by decide +kernel, rfl, by decide +kernel, by decide +kernel⟩
theorem nk_count_digits : NOk ["base", "coefficient", "rest", "squares", "count", "k"] 6 (defScope S_count_digits) := ⟨sc_count_digits.nd, by decide +kernel⟩
abbrev S_without_zeros : Stmt := topS 12
abbrev N_without_zeros : List Str := ["base", "coefficient", "squares", "rest", "count", "k"]
theorem sc_without_zeros : FnScope ["base", "coefficient", "squares", "rest", "count", "k"] ["base", "coefficient"] (defScope S_without_zeros) := ⟨rfl, rfl, rfl, by decide +kernel, rfl, by decide +kernel, by decide +kernel⟩
theorem nk_without_zeros : NOk ["base", "coefficient", "squares", "rest", "count", "k"] 6 (defScope S_without_zeros) := ⟨sc_without_zeros.nd, by decide +kernel⟩
abbrev S_check_base : Stmt := topS 13
abbrev N_check_base : List Str := ["base"]
theorem sc_check_base : FnScope ["base"] ["base"] (defScope S_check_base) := ⟨rfl, rfl, rfl, by decide +kernel, rfl, by decide +kernel, by decide +kernel⟩
theorem nk_check_base : NOk ["base"] 1 (defScope S_check_base) := ⟨sc_check_base.nd, by decide +kernel⟩
abbrev S_Exact___init__ : Stmt := inClass (topS 14) 0
abbrev N_Exact___init__ : List Str := ["self", "base", "coefficient", "exponent", "rest", "count"]
theorem sc_Exact___init__ : FnScope ["self", "base", "coefficient", "exponent", "rest", "count"] ["self", "base", "coefficient", "exponent"] (defScope S_Exact___init__) := ⟨rfl, rfl, rfl, by decide +kernel, rfl, by decide +kernel, by decide +kernel⟩
theorem nk_Exact___init__ : NOk ["self", "base", "coefficient", "exponent", "rest", "count"] 6 (defScope S_Exact___init__) := ⟨sc_Exact___init__.nd, by decide +kernel⟩
abbrev S_Exact_sign : Stmt := inClass (topS 14) 1
abbrev N_Exact_sign : List Str := ["self"]
theorem sc_Exact_sign : FnScope ["self"] ["self"] (defScope S_Exact_sign) := ⟨rfl, rfl, rfl, by decide +kernel, rfl, by decide +kernel, by decide +kernel⟩
theorem nk_Exact_sign : NOk ["self"] 1 (defScope S_Exact_sign) := ⟨sc_Exact_sign.nd, by decide +kernel⟩
abbrev S_Exact_digits : Stmt := inClass (topS 14) 2
abbrev N_Exact_digits : List Str := ["self"]
theorem sc_Exact_digits : FnScope ["self"] ["self"] (defScope S_Exact_digits) := ⟨rfl, rfl, rfl, by decide +kernel, rfl, by decide +kernel, by decide +kernel⟩
theorem nk_Exact_digits : NOk ["self"] 1 (defScope S_Exact_digits) := ⟨sc_Exact_digits.nd, by decide +kernel⟩
abbrev S_Exact_place : Stmt := inClass (topS 14) 3
abbrev N_Exact_place : List Str := ["self"]
theorem sc_Exact_place : FnScope ["self"] ["self"] (defScope S_Exact_place) := ⟨rfl, rfl, rfl, by decide +kernel, rfl, by decide +kernel, by decide +kernel⟩
theorem nk_Exact_place : NOk ["self"] 1 (defScope S_Exact_place) := ⟨sc_Exact_place.nd, by decide +kernel⟩
abbrev S_Exact___add__ : Stmt := inClass (topS 14) 4
abbrev N_Exact___add__ : List Str := ["self", "other"]
theorem sc_Exact___add__ : FnScope ["self", "other"] ["self", "other"] (defScope S_Exact___add__) := ⟨rfl, rfl, rfl, by decide +kernel, rfl, by decide +kernel, by decide +kernel⟩
theorem nk_Exact___add__ : NOk ["self", "other"] 2 (defScope S_Exact___add__) := ⟨sc_Exact___add__.nd, by decide +kernel⟩
abbrev S_Exact___radd__ : Stmt := inClass (topS 14) 5
abbrev N_Exact___radd__ : List Str := ["self", "other"]
theorem sc_Exact___radd__ : FnScope ["self", "other"] ["self", "other"] (defScope S_Exact___radd__) := ⟨rfl, rfl, rfl, by decide +kernel, rfl, by decide +kernel, by decide +kernel⟩
theorem nk_Exact___radd__ : NOk ["self", "other"] 2 (defScope S_Exact___radd__) := ⟨sc_Exact___radd__.nd, by decide +kernel⟩
abbrev S_Exact___sub__ : Stmt := inClass (topS 14) 6
abbrev N_Exact___sub__ : List Str := ["self", "other"]
theorem sc_Exact___sub__ : FnScope ["self", "other"] ["self", "other"] (defScope S_Exact___sub__) := ⟨rfl, rfl, rfl, by decide +kernel, rfl, by decide +kernel, by decide +kernel⟩
theorem nk_Exact___sub__ : NOk ["self", "other"] 2 (defScope S_Exact___sub__) := ⟨sc_Exact___sub__.nd, by decide +kernel⟩
abbrev S_Exact___rsub__ : Stmt := inClass (topS 14) 7
abbrev N_Exact___rsub__ : List Str := ["self", "other"]
theorem sc_Exact___rsub__ : FnScope ["self", "other"] ["self", "other"] (defScope S_Exact___rsub__) := ⟨rfl, rfl, rfl, by decide +kernel, rfl, by decide +kernel, by decide +kernel⟩
theorem nk_Exact___rsub__ : NOk ["self", "other"] 2 (defScope S_Exact___rsub__) := ⟨sc_Exact___rsub__.nd, by decide +kernel⟩
abbrev S_Exact___mul__ : Stmt := inClass (topS 14) 8
abbrev N_Exact___mul__ : List Str := ["self", "other"]
theorem sc_Exact___mul__ : FnScope ["self", "other"] ["self", "other"] (defScope S_Exact___mul__) := ⟨rfl, rfl, rfl, by decide +kernel, rfl, by decide +kernel, by decide +kernel⟩
theorem nk_Exact___mul__ : NOk ["self", "other"] 2 (defScope S_Exact___mul__) := ⟨sc_Exact___mul__.nd, by decide +kernel⟩
abbrev S_Exact___rmul__ : Stmt := inClass (topS 14) 9
abbrev N_Exact___rmul__ : List Str := ["self", "other"]
theorem sc_Exact___rmul__ : FnScope ["self", "other"] ["self", "other"] (defScope S_Exact___rmul__) := ⟨rfl, rfl, rfl, by decide +kernel, rfl, by decide +kernel, by decide +kernel⟩
theorem nk_Exact___rmul__ : NOk ["self", "other"] 2 (defScope S_Exact___rmul__) := ⟨sc_Exact___rmul__.nd, by decide +kernel⟩
abbrev S_Exact___neg__ : Stmt := inClass (topS 14) 10
abbrev N_Exact___neg__ : List Str := ["self"]
theorem sc_Exact___neg__ : FnScope ["self"] ["self"] (defScope S_Exact___neg__) := ⟨rfl, rfl, rfl, by decide +kernel, rfl, by decide +kernel, by decide +kernel⟩
theorem nk_Exact___neg__ : NOk ["self"] 1 (defScope S_Exact___neg__) := ⟨sc_Exact___neg__.nd, by decide +kernel⟩
abbrev S_Exact___abs__ : Stmt := inClass (topS 14) 11
abbrev N_Exact___abs__ : List Str := ["self"]
theorem sc_Exact___abs__ : FnScope ["self"] ["self"] (defScope S_Exact___abs__) := ⟨rfl, rfl, rfl, by decide +kernel, rfl, by decide +kernel, by decide +kernel⟩
theorem nk_Exact___abs__ : NOk ["self"] 1 (defScope S_Exact___abs__) := ⟨sc_Exact___abs__.nd, by decide +kernel⟩
abbrev S_Exact___bool__ : Stmt := inClass (topS 14) 12
abbrev N_Exact___bool__ : List Str := ["self"]
theorem sc_Exact___bool__ : FnScope ["self"] ["self"] (defScope S_Exact___bool__) := ⟨rfl, rfl, rfl, by decide +kernel, rfl, by decide +kernel, by decide +kernel⟩
theorem nk_Exact___bool__ : NOk ["self"] 1 (defScope S_Exact___bool__) := ⟨sc_Exact___bool__.nd, by decide +kernel⟩
abbrev S_Exact___lshift__ : Stmt := inClass (topS 14) 13
abbrev N_Exact___lshift__ : List Str := ["self", "other"]
theorem sc_Exact___lshift__ : FnScope ["self", "other"] ["self", "other"] (defScope S_Exact___lshift__) := ⟨rfl, rfl, rfl, by decide +kernel, rfl, by decide +kernel, by decide +kernel⟩
theorem nk_Exact___lshift__ : NOk ["self", "other"] 2 (defScope S_Exact___lshift__) := ⟨sc_Exact___lshift__.nd, by decide +kernel⟩
abbrev S_Exact___rshift__ : Stmt := inClass (topS 14) 14
abbrev N_Exact___rshift__ : List Str := ["self", "other"]
theorem sc_Exact___rshift__ : FnScope ["self", "other"] ["self", "other"] (defScope S_Exact___rshift__) := ⟨rfl, rfl, rfl, by decide +kernel, rfl, by decide +kernel, by decide +kernel⟩
theorem nk_Exact___rshift__ : NOk ["self", "other"] 2 (defScope S_Exact___rshift__) := ⟨sc_Exact___rshift__.nd, by decide +kernel⟩
abbrev S_Exact___floordiv__ : Stmt := inClass (topS 14) 15
abbrev N_Exact___floordiv__ : List Str := ["self", "other"]
theorem sc_Exact___floordiv__ : FnScope ["self", "other"] ["self", "other"] (defScope S_Exact___floordiv__) := ⟨rfl, rfl, rfl, by decide +kernel, rfl, by decide +kernel, by decide +kernel⟩
theorem nk_Exact___floordiv__ : NOk ["self", "other"] 2 (defScope S_Exact___floordiv__) := ⟨sc_Exact___floordiv__.nd, by decide +kernel⟩
abbrev S_Exact___mod__ : Stmt := inClass (topS 14) 16
abbrev N_Exact___mod__ : List Str := ["self", "other", "right", "times", "product"]
theorem sc_Exact___mod__ : FnScope ["self", "other", "right", "times", "product"] ["self", "other"] (defScope S_Exact___mod__) := ⟨rfl, rfl, rfl, by decide +kernel, rfl, by decide +kernel, by decide +kernel⟩
theorem nk_Exact___mod__ : NOk ["self", "other", "right", "times", "product"] 5 (defScope S_Exact___mod__) := ⟨sc_Exact___mod__.nd, by decide +kernel⟩
abbrev S_Exact_raised : Stmt := inClass (topS 14) 17
abbrev N_Exact_raised : List Str := ["self", "times"]
theorem sc_Exact_raised : FnScope ["self", "times"] ["self", "times"] (defScope S_Exact_raised) := ⟨rfl, rfl, rfl, by decide +kernel, rfl, by decide +kernel, by decide +kernel⟩
theorem nk_Exact_raised : NOk ["self", "times"] 2 (defScope S_Exact_raised) := ⟨sc_Exact_raised.nd, by decide +kernel⟩
abbrev S_Exact___pow__ : Stmt := inClass (topS 14) 18
abbrev N_Exact___pow__ : List Str := ["self", "other"]
theorem sc_Exact___pow__ : FnScope ["self", "other"] ["self", "other"] (defScope S_Exact___pow__) := ⟨rfl, rfl, rfl, by decide +kernel, rfl, by decide +kernel, by decide +kernel⟩
theorem nk_Exact___pow__ : NOk ["self", "other"] 2 (defScope S_Exact___pow__) := ⟨sc_Exact___pow__.nd, by decide +kernel⟩
abbrev S_Exact___eq__ : Stmt := inClass (topS 14) 19
abbrev N_Exact___eq__ : List Str := ["self", "other"]
theorem sc_Exact___eq__ : FnScope ["self", "other"] ["self", "other"] (defScope S_Exact___eq__) := ⟨rfl, rfl, rfl, by decide +kernel, rfl, by decide +kernel, by decide +kernel⟩
theorem nk_Exact___eq__ : NOk ["self", "other"] 2 (defScope S_Exact___eq__) := ⟨sc_Exact___eq__.nd, by decide +kernel⟩
abbrev S_Exact___lt__ : Stmt := inClass (topS 14) 20
abbrev N_Exact___lt__ : List Str := ["self", "other"]
theorem sc_Exact___lt__ : FnScope ["self", "other"] ["self", "other"] (defScope S_Exact___lt__) := ⟨rfl, rfl, rfl, by decide +kernel, rfl, by decide +kernel, by decide +kernel⟩
theorem nk_Exact___lt__ : NOk ["self", "other"] 2 (defScope S_Exact___lt__) := ⟨sc_Exact___lt__.nd, by decide +kernel⟩
abbrev S_Exact___le__ : Stmt := inClass (topS 14) 21
abbrev N_Exact___le__ : List Str := ["self", "other"]
theorem sc_Exact___le__ : FnScope ["self", "other"] ["self", "other"] (defScope S_Exact___le__) := ⟨rfl, rfl, rfl, by decide +kernel, rfl, by decide +kernel, by decide +kernel⟩
theorem nk_Exact___le__ : NOk ["self", "other"] 2 (defScope S_Exact___le__) := ⟨sc_Exact___le__.nd, by decide +kernel⟩
abbrev S_Exact___gt__ : Stmt := inClass (topS 14) 22
abbrev N_Exact___gt__ : List Str := ["self", "other"]
theorem sc_Exact___gt__ : FnScope ["self", "other"] ["self", "other"] (defScope S_Exact___gt__) := ⟨rfl, rfl, rfl, by decide +kernel, rfl, by decide +kernel, by decide +kernel⟩
theorem nk_Exact___gt__ : NOk ["self", "other"] 2 (defScope S_Exact___gt__) := ⟨sc_Exact___gt__.nd, by decide +kernel⟩
abbrev S_Exact___ge__ : Stmt := inClass (topS 14) 23
abbrev N_Exact___ge__ : List Str := ["self", "other"]
theorem sc_Exact___ge__ : FnScope ["self", "other"] ["self", "other"] (defScope S_Exact___ge__) := ⟨rfl, rfl, rfl, by decide +kernel, rfl, by decide +kernel, by decide +kernel⟩
theorem nk_Exact___ge__ : NOk ["self", "other"] 2 (defScope S_Exact___ge__) := ⟨sc_Exact___ge__.nd, by decide +kernel⟩
abbrev S_taken : Stmt := topS 15
abbrev N_taken : List Str := ["value", "other"]
theorem sc_taken : FnScope ["value", "other"] ["value", "other"] (defScope S_taken) := ⟨rfl, rfl, rfl, by decide +kernel, rfl, by decide +kernel, by decide +kernel⟩
theorem nk_taken : NOk ["value", "other"] 2 (defScope S_taken) := ⟨sc_taken.nd, by decide +kernel⟩
abbrev S_aligned : Stmt := topS 16
abbrev N_aligned : List Str := ["left", "right", "more"]
theorem sc_aligned : FnScope ["left", "right", "more"] ["left", "right"] (defScope S_aligned) := ⟨rfl, rfl, rfl, by decide +kernel, rfl, by decide +kernel, by decide +kernel⟩
theorem nk_aligned : NOk ["left", "right", "more"] 3 (defScope S_aligned) := ⟨sc_aligned.nd, by decide +kernel⟩
abbrev S_combined : Stmt := topS 17
abbrev N_combined : List Str := ["left", "right", "sign", "first", "second", "exponent"]
theorem sc_combined : FnScope ["left", "right", "sign", "first", "second", "exponent"] ["left", "right", "sign"] (defScope S_combined) := ⟨rfl, rfl, rfl, by decide +kernel, rfl, by decide +kernel, by decide +kernel⟩
theorem nk_combined : NOk ["left", "right", "sign", "first", "second", "exponent"] 6 (defScope S_combined) := ⟨sc_combined.nd, by decide +kernel⟩
abbrev S_multiplied : Stmt := topS 18
abbrev N_multiplied : List Str := ["left", "right"]
theorem sc_multiplied : FnScope ["left", "right"] ["left", "right"] (defScope S_multiplied) := ⟨rfl, rfl, rfl, by decide +kernel, rfl, by decide +kernel, by decide +kernel⟩
theorem nk_multiplied : NOk ["left", "right"] 2 (defScope S_multiplied) := ⟨sc_multiplied.nd, by decide +kernel⟩
abbrev S_compared : Stmt := topS 19
abbrev N_compared : List Str := ["left", "right", "first", "second", "_"]
theorem sc_compared : FnScope ["left", "right", "first", "second", "_"] ["left", "right"] (defScope S_compared) := ⟨rfl, rfl, rfl, by decide +kernel, rfl, by decide +kernel, by decide +kernel⟩
theorem nk_compared : NOk ["left", "right", "first", "second", "_"] 5 (defScope S_compared) := ⟨sc_compared.nd, by decide +kernel⟩
abbrev S_quotient : Stmt := topS 20
abbrev N_quotient : List Str := ["left", "right", "first", "second", "_"]
theorem sc_quotient : FnScope ["left", "right", "first", "second", "_"] ["left", "right"] (defScope S_quotient) := ⟨rfl, rfl, rfl, by decide +kernel, rfl, by decide +kernel, by decide +kernel⟩
theorem nk_quotient : NOk ["left", "right", "first", "second", "_"] 5 (defScope S_quotient) := ⟨sc_quotient.nd, by decide +kernel⟩
abbrev S_Grid___init__ : Stmt := inClass (topS 22) 2
abbrev N_Grid___init__ : List Str := ["self", "base", "precision", "bottom", "top"]
theorem sc_Grid___init__ : FnScope ["self", "base", "precision", "bottom", "top"] ["self", "base", "precision", "bottom", "top"] (defScope S_Grid___init__) := ⟨rfl, rfl, rfl, by decide +kernel, rfl, by decide +kernel, by decide +kernel⟩
theorem nk_Grid___init__ : NOk ["self", "base", "precision", "bottom", "top"] 5 (defScope S_Grid___init__) := ⟨sc_Grid___init__.nd, by decide +kernel⟩
abbrev S_Grid_binary : Stmt := inClass (topS 22) 3
abbrev N_Grid_binary : List Str := ["cls", "precision"]
theorem sc_Grid_binary : FnScope ["cls", "precision"] ["cls", "precision"] (defScope S_Grid_binary) := ⟨rfl, rfl, rfl, by decide +kernel, rfl, by decide +kernel, by decide +kernel⟩
theorem nk_Grid_binary : NOk ["cls", "precision"] 2 (defScope S_Grid_binary) := ⟨sc_Grid_binary.nd, by decide +kernel⟩
abbrev S_Grid_decimal : Stmt := inClass (topS 22) 4
abbrev N_Grid_decimal : List Str := ["cls", "precision"]
theorem sc_Grid_decimal : FnScope ["cls", "precision"] ["cls", "precision"] (defScope S_Grid_decimal) := ⟨rfl, rfl, rfl, by decide +kernel, rfl, by decide +kernel, by decide +kernel⟩
theorem nk_Grid_decimal : NOk ["cls", "precision"] 2 (defScope S_Grid_decimal) := ⟨sc_Grid_decimal.nd, by decide +kernel⟩
abbrev S_Grid_greatest : Stmt := inClass (topS 22) 5
abbrev N_Grid_greatest : List Str := ["self"]
theorem sc_Grid_greatest : FnScope ["self"] ["self"] (defScope S_Grid_greatest) := ⟨rfl, rfl, rfl, by decide +kernel, rfl, by decide +kernel, by decide +kernel⟩
theorem nk_Grid_greatest : NOk ["self"] 1 (defScope S_Grid_greatest) := ⟨sc_Grid_greatest.nd, by decide +kernel⟩
abbrev S_Grid___eq__ : Stmt := inClass (topS 22) 6
abbrev N_Grid___eq__ : List Str := ["self", "other"]
theorem sc_Grid___eq__ : FnScope ["self", "other"] ["self", "other"] (defScope S_Grid___eq__) := ⟨rfl, rfl, rfl, by decide +kernel, rfl, by decide +kernel, by decide +kernel⟩
theorem nk_Grid___eq__ : NOk ["self", "other"] 2 (defScope S_Grid___eq__) := ⟨sc_Grid___eq__.nd, by decide +kernel⟩
abbrev S_Grid___contains__ : Stmt := inClass (topS 22) 7
abbrev N_Grid___contains__ : List Str := ["self", "value"]
theorem sc_Grid___contains__ : FnScope ["self", "value"] ["self", "value"] (defScope S_Grid___contains__) := ⟨rfl, rfl, rfl, by decide +kernel, rfl, by decide +kernel, by decide +kernel⟩
theorem nk_Grid___contains__ : NOk ["self", "value"] 2 (defScope S_Grid___contains__) := ⟨sc_Grid___contains__.nd, by decide +kernel⟩
abbrev S_Grid_unit : Stmt := inClass (topS 22) 8
abbrev N_Grid_unit : List Str := ["self", "value"]
theorem sc_Grid_unit : FnScope ["self", "value"] ["self", "value"] (defScope S_Grid_unit) := ⟨rfl, rfl, rfl, by decide +kernel, rfl, by decide +kernel, by decide +kernel⟩
theorem nk_Grid_unit : NOk ["self", "value"] 2 (defScope S_Grid_unit) := ⟨sc_Grid_unit.nd, by decide +kernel⟩
abbrev S_Grid_rounded : Stmt := inClass (topS 22) 9
abbrev N_Grid_rounded : List Str := ["self", "value", "mode"]
theorem sc_Grid_rounded : FnScope ["self", "value", "mode"] ["self", "value", "mode"] (defScope S_Grid_rounded) := ⟨rfl, rfl, rfl, by decide +kernel, rfl, by decide +kernel, by decide +kernel⟩
theorem nk_Grid_rounded : NOk ["self", "value", "mode"] 3 (defScope S_Grid_rounded) := ⟨sc_Grid_rounded.nd, by decide +kernel⟩
abbrev S_Grid_loss_of : Stmt := inClass (topS 22) 10
abbrev N_Grid_loss_of : List Str := ["self", "value", "mode"]
theorem sc_Grid_loss_of : FnScope ["self", "value", "mode"] ["self", "value", "mode"] (defScope S_Grid_loss_of) := ⟨rfl, rfl, rfl, by decide +kernel, rfl, by decide +kernel, by decide +kernel⟩
theorem nk_Grid_loss_of : NOk ["self", "value", "mode"] 3 (defScope S_Grid_loss_of) := ⟨sc_Grid_loss_of.nd, by decide +kernel⟩
abbrev S_Grid_neighbours : Stmt := inClass (topS 22) 11
abbrev N_Grid_neighbours : List Str := ["self", "value"]
theorem sc_Grid_neighbours : FnScope ["self", "value"] ["self", "value"] (defScope S_Grid_neighbours) := ⟨rfl, rfl, rfl, by decide +kernel, rfl, by decide +kernel, by decide +kernel⟩
theorem nk_Grid_neighbours : NOk ["self", "value"] 2 (defScope S_Grid_neighbours) := ⟨sc_Grid_neighbours.nd, by decide +kernel⟩
abbrev S_Grid_rising : Stmt := inClass (topS 22) 12
abbrev N_Grid_rising : List Str := ["self", "start", "count"]
theorem sc_Grid_rising : FnScope ["self", "start", "count"] ["self", "start", "count"] (defScope S_Grid_rising) := ⟨rfl, rfl, rfl, by decide +kernel, rfl, by decide +kernel, by decide +kernel⟩
theorem nk_Grid_rising : NOk ["self", "start", "count"] 3 (defScope S_Grid_rising) := ⟨sc_Grid_rising.nd, by decide +kernel⟩
abbrev S_check_same_base : Stmt := topS 23
abbrev N_check_same_base : List Str := ["grid", "value"]
theorem sc_check_same_base : FnScope ["grid", "value"] ["grid", "value"] (defScope S_check_same_base) := ⟨rfl, rfl, rfl, by decide +kernel, rfl, by decide +kernel, by decide +kernel⟩
theorem nk_check_same_base : NOk ["grid", "value"] 2 (defScope S_check_same_base) := ⟨sc_check_same_base.nd, by decide +kernel⟩
abbrev S_beyond : Stmt := topS 24
abbrev N_beyond : List Str := ["grid", "value"]
theorem sc_beyond : FnScope ["grid", "value"] ["grid", "value"] (defScope S_beyond) := ⟨rfl, rfl, rfl, by decide +kernel, rfl, by decide +kernel, by decide +kernel⟩
theorem nk_beyond : NOk ["grid", "value"] 2 (defScope S_beyond) := ⟨sc_beyond.nd, by decide +kernel⟩
abbrev S__law_source : Stmt := topS 26
abbrev N__law_source : List Str := ["script", "cell"]
theorem sc__law_source : FnScope ["script", "cell"] ["script"] (defScope S__law_source) := ⟨rfl, rfl, rfl, by decide +kernel, rfl, by decide +kernel, by decide +kernel⟩
theorem nk__law_source : NOk ["script", "cell"] 1 (defScope S__law_source) := ⟨sc__law_source.nd, by decide +kernel⟩
abbrev S__law_draw : Stmt := topS 27
abbrev N__law_draw : List Str := ["source", "many", "cell", "size", "value", "mixed"]
theorem sc__law_draw : FnScope ["source", "many", "cell", "size", "value", "mixed"] ["source", "many"] (defScope S__law_draw) := ⟨rfl, rfl, rfl, by decide +kernel, rfl, by decide +kernel, by decide +kernel⟩
theorem nk__law_draw : NOk ["source", "many", "cell", "size", "value", "mixed"] 6 (defScope S__law_draw) := ⟨sc__law_draw.nd, by decide +kernel⟩
abbrev S__law_base : Stmt := topS 28
abbrev N__law_base : List Str := ["source", "kind"]
theorem sc__law_base : FnScope ["source", "kind"] ["source"] (defScope S__law_base) := ⟨rfl, rfl, rfl, by decide +kernel, rfl, by decide +kernel, by decide +kernel⟩
theorem nk__law_base : NOk ["source", "kind"] 2 (defScope S__law_base) := ⟨sc__law_base.nd, by decide +kernel⟩
abbrev S__law_precision : Stmt := topS 29
abbrev N__law_precision : List Str := ["source", "most"]
theorem sc__law_precision : FnScope ["source", "most"] ["source", "most"] (defScope S__law_precision) := ⟨rfl, rfl, rfl, by decide +kernel, rfl, by decide +kernel, by decide +kernel⟩
theorem nk__law_precision : NOk ["source", "most"] 2 (defScope S__law_precision) := ⟨sc__law_precision.nd, by decide +kernel⟩
abbrev S__law_small : Stmt := topS 30
abbrev N__law_small : List Str := ["source", "size"]
theorem sc__law_small : FnScope ["source", "size"] ["source"] (defScope S__law_small) := ⟨rfl, rfl, rfl, by decide +kernel, rfl, by decide +kernel, by decide +kernel⟩
theorem nk__law_small : NOk ["source", "size"] 2 (defScope S__law_small) := ⟨sc__law_small.nd, by decide +kernel⟩
abbrev S__law_equal : Stmt := topS 31
abbrev N__law_equal : List Str := ["actual", "expected", "k"]
theorem sc__law_equal : FnScope ["actual", "expected", "k"] ["actual", "expected"] (defScope S__law_equal) := ⟨rfl, rfl, rfl, by decide +kernel, rfl, by decide +kernel, by decide +kernel⟩
theorem nk__law_equal : NOk ["actual", "expected", "k"] 3 (defScope S__law_equal) := ⟨sc__law_equal.nd, by decide +kernel⟩
abbrev S__law_grid : Stmt := topS 32
abbrev N__law_grid : List Str := ["source", "base", "precision", "bottom", "top", "kind"]
theorem sc__law_grid : FnScope ["source", "base", "precision", "bottom", "top", "kind"] ["source"] (defScope S__law_grid) := ⟨rfl, rfl, rfl, by decide +kernel, rfl, by decide +kernel, by decide +kernel⟩
theorem nk__law_grid : NOk ["source", "base", "precision", "bottom", "top", "kind"] 6 (defScope S__law_grid) := ⟨sc__law_grid.nd, by decide +kernel⟩
abbrev S__law_grid_made : Stmt := topS 33
abbrev N__law_grid_made : List Str := ["row"]
theorem sc__law_grid_made : FnScope ["row"] ["row"] (defScope S__law_grid_made) := ⟨rfl, rfl, rfl, by decide +kernel, rfl, by decide +kernel, by decide +kernel⟩
theorem nk__law_grid_made : NOk ["row"] 1 (defScope S__law_grid_made) := ⟨sc__law_grid_made.nd, by decide +kernel⟩
abbrev S__law_signed : Stmt := topS 34
abbrev N__law_signed : List Str := ["source", "most", "size"]
theorem sc__law_signed : FnScope ["source", "most", "size"] ["source", "most"] (defScope S__law_signed) := ⟨rfl, rfl, rfl, by decide +kernel, rfl, by decide +kernel, by decide +kernel⟩
theorem nk__law_signed : NOk ["source", "most", "size"] 3 (defScope S__law_signed) := ⟨sc__law_signed.nd, by decide +kernel⟩
abbrev S__law_border : Stmt := topS 35
abbrev N__law_border : List Str := ["source"]
theorem sc__law_border : FnScope ["source"] ["source"] (defScope S__law_border) := ⟨rfl, rfl, rfl, by decide +kernel, rfl, by decide +kernel, by decide +kernel⟩
theorem nk__law_border : NOk ["source"] 1 (defScope S__law_border) := ⟨sc__law_border.nd, by decide +kernel⟩
abbrev S__law_any : Stmt := topS 36
abbrev N__law_any : List Str := ["source", "base", "precision"]
theorem sc__law_any : FnScope ["source", "base", "precision"] ["source"] (defScope S__law_any) := ⟨rfl, rfl, rfl, by decide +kernel, rfl, by decide +kernel, by decide +kernel⟩
theorem nk__law_any : NOk ["source", "base", "precision"] 3 (defScope S__law_any) := ⟨sc__law_any.nd, by decide +kernel⟩
abbrev S__law_due : Stmt := topS 37
abbrev N__law_due : List Str := ["row"]
theorem sc__law_due : FnScope ["row"] ["row"] (defScope S__law_due) := ⟨rfl, rfl, rfl, by decide +kernel, rfl, by decide +kernel, by decide +kernel⟩
theorem nk__law_due : NOk ["row"] 1 (defScope S__law_due) := ⟨sc__law_due.nd, by decide +kernel⟩
abbrev S__law_outcome : Stmt := topS 38
abbrev N__law_outcome : List Str := ["row", "way", "grid", "e"]
theorem sc__law_outcome : FnScope ["row", "way", "grid", "e"] ["row", "way"] (defScope S__law_outcome) := ⟨rfl, rfl, rfl, by decide +kernel, rfl, by decide +kernel, by decide +kernel⟩
theorem nk__law_outcome : NOk ["row", "way", "grid", "e"] 4 (defScope S__law_outcome) := ⟨sc__law_outcome.nd, by decide +kernel⟩
abbrev S__law_changed : Stmt := topS 39
abbrev N__law_changed : List Str := ["source", "row", "base", "under", "above", "others"]
theorem sc__law_changed : FnScope ["source", "row", "base", "under", "above", "others"] ["source", "row"] (defScope S__law_changed) := ⟨rfl, rfl, rfl, by decide +kernel, rfl, by decide +kernel, by decide +kernel⟩
theorem nk__law_changed : NOk ["source", "row", "base", "under", "above", "others"] 6 (defScope S__law_changed) := ⟨sc__law_changed.nd, by decide +kernel⟩
abbrev S__law_equals : Stmt := topS 40
abbrev N__law_equals : List Str := ["source", "row", "grid", "twin", "changed", "other", "thing"]
theorem sc__law_equals : FnScope ["source", "row", "grid", "twin", "changed", "other", "thing"] ["source"] (defScope S__law_equals) := ⟨rfl, rfl, rfl, by decide +kernel, rfl, by decide +kernel, by decide +kernel⟩
theorem nk__law_equals : NOk ["source", "row", "grid", "twin", "changed", "other", "thing"] 7 (defScope S__law_equals) := ⟨sc__law_equals.nd, by decide +kernel⟩
abbrev S_law : Stmt := topS 41
abbrev N_law : List Str := ["script", "source", "good", "many", "side", "bad", "thin", "rows", "row", "way", "k"]
theorem sc_law : FnScope ["script", "source", "good", "many", "side", "bad", "thin", "rows", "row", "way", "k"] ["script"] (defScope S_law) := ⟨rfl, rfl, rfl, by decide +kernel, rfl, by decide +kernel, by decide +kernel⟩
theorem nk_law : NOk ["script", "source", "good", "many", "side", "bad", "thin", "rows", "row", "way", "k"] 10 (defScope S_law) := ⟨sc_law.nd, by decide +kernel⟩
theorem ok_source {f : Addr} {fd : FuncData} (F : Fun K "_law_source" "_law_source" S__law_source f fd) (B : Blt mg) : FnOk P w K mg base (L2N.CX P w) 1 f fd ["script"] (spSrc K) := by
  have S := nk__law_source
  refine src_hide (F.okN sc__law_source (fun vs H Q E h => ?_) (fun cdv A outer s H vs Q E hr h => ?_)) (fun outer H s E e s' z => cxn_no z)
  · obtain ⟨a, ns, rfl, _⟩ := h; rfl
  · obtain ⟨a, ns, rfl, hs, hl, hQ⟩ := h
    show ZSs _ _ _ _ _ _ [some (.ref a), none] H
    refine zss_one (zs_ret (ze_lst ?_))
    fail "za"
    refine ze_lcL (own := [("cell", 1)]) rfl sc__law_source.nd (blkOk_by (show blkC ["script", "cell"] (defScope S__law_source) _ _ = true by decide +kernel)) ?_
    fail "z"
    refine ⟨a, _, rfl, hs, fun D hD => ⟨fun i H' => i ≤ ns.length ∧ H' = upd H D (.lst ((ns.map V.int).take i)), ⟨Nat.zero_le _, by simp⟩, fun i H' _ h => ?_, fun i x H' hx h => ?_, fun H' h => ?_⟩⟩
    · obtain ⟨_, rfl⟩ := h
      exact Same.seq (Same.new (Same.refl _) hD) hs
    · obtain ⟨hi, rfl⟩ := h
      obtain ⟨c, hc, rfl⟩ := map_get hx
      have hlt : i < ns.length := (List.getElem?_eq_some_iff.mp hc).1
      refine fun s1 H1 C cl fp => zg_name 1 sc__law_source.nd rfl ?_ (.inl rfl) (.inr rfl)
      refine ⟨rfl, fun s1 H1 C cl fp => ?_⟩
      refine zc_int B ?_
      refine za_cons (ze_var 1 rfl rfl (za_nil ?_))
      refine cw_int ?_
      refine ⟨_, upd_same, by rw [List.length_take, List.length_map]; have : ns.length ≤ 1000 := hl; have : sizeLine = 16777216 := sizeLine_eq; omega, by omega, ?_⟩
      rw [upd_upd, List.take_succ, hx]
      rfl
    · obtain ⟨_, rfl⟩ := h
      fail "za"
      rename_i p hp
      have np : p ≠ D := upd_no_ne hp.e
      refine hQ p D _ (upd_no hp.e) hD (Same.new (Same.new (Same.refl _) hD) hp.e) np upd_same ?_
      rw [upd_ne np.symm, upd_same, List.take_of_length_le (by rw [List.length_map]; exact Nat.le_refl _)]

theorem ok_draw {f : Addr} {fd : FuncData} (F : Fun K "_law_draw" "_law_draw" S__law_draw f fd) (B : Blt mg) : FnOk P w K mg base (L2N.CX P w) 1 f fd ["source", "many"] spDraw := by
  have S := nk__law_draw
  refine draw_hide (F.okN sc__law_draw (fun vs H Q E h => ?_) (fun cdv A outer s H vs Q E hr h => ?_)) (fun outer H s E e s' z => cxn_no z)
  · obtain ⟨p, q, many, i, x1, x2, x3, ns, rfl, _⟩ := h; rfl
  · obtain ⟨p, q, many, i, x1, x2, x3, ns, rfl, hm, hm2, hp, hi, hq, hl, hQ⟩ := h
    unfold srcL at hp hQ
    have npq : q ≠ p := fun e => by
      rw [e, hp] at hq
      have z := HO.lst.inj (Option.some.inj hq)
      have z2 := congrArg (fun l : List V => l[4]?) z
      simp only [List.getElem?_map] at z2
      cases e4 : ns[4]? <;> rw [e4] at z2 <;> simp at z2
    have fin : ∀ (H' : Hp) (v i' x1' x2' x3' : Int), H' = upd H p (.lst [.int i', .int x1', .int x2', .int x3', .ref q]) → 0 ≤ i' → Q (.int (v % many)) H' := fun H' v i' x1' x2' x3' e h => by
      rw [e]; exact hQ _ _ _ _ _ (Int.emod_nonneg _ (by omega)) (Int.emod_lt_of_pos _ hm) h
    show ZSs _ _ _ _ _ _ [some (.ref p), some (.int many), none, none, none, none] H
    refine zss_cons ?_
    fail "za"
    · have := hQ 0 i x1 x2 x3 (Int.le_refl _) hm hi
      rwa [upd_id hp] at this
    · rename_i h1 h2 h3
      obtain ⟨v, hv, hv2⟩ := atI_lt hi (show i < (ns.map V.int).length by omega)
      obtain ⟨c, hc, rfl⟩ := map_get hv
      refine xw_lst (SqL.of hq) hv2 ?_
      fail "za"
      all_goals exact fin _ _ _ _ _ _ (by simp only [upd_upd]; rfl) (by omega)
    all_goals exact fin _ _ _ _ _ _ (by first | rfl | (simp only [upd_upd]; rfl)) (by omega)

local macro_rules | `(tactic| fail "zty") => `(tactic| first | exact TyX.ofL (by assumption) | exact TyX.ofT (by assumption))
theorem ok_equal {f : Addr} {fd : FuncData} (F : Fun K "_law_equal" "_law_equal" S__law_equal f fd) (B : Blt mg) (gm : mg "_law_equal" = some (.ref f)) (kp : PySem.W.keepIn K (.ref f) = true) (hb : Binds K fd ["actual", "expected"] []) :
    ∀ n, FnOk P w K mg base (L2N.CX P w) (n + 1) f fd ["actual", "expected"] (spEq K n) := by
  have S := nk__law_equal
  intro n
  induction n with
  | zero =>
    refine F.okN sc__law_equal (fun vs H Q E h => ?_) (fun cdv A outer s H vs Q E hr h => ?_)
    · obtain ⟨x, y, rfl, _⟩ := h; rfl
    · obtain ⟨x, y, rfl, hd, hQ⟩ := h
      cases hd
      all_goals
        show ZSs _ _ _ _ _ _ [some _, some _, none] H
        fail "z0"
        all_goals first | (simp; exact hQ) | (simp_all; done)
  | succ n ih =>
    have c : Cal P w K mg base (n + 1) "_law_equal" (spEq K n) := ⟨f, fd, _, [], [], _, ih, gm, kp, hb, .nil, fun vs H Q E h => by rw [List.append_nil]; exact h⟩
    refine F.okN sc__law_equal (fun vs H Q E h => ?_) (fun cdv A outer s H vs Q E hr h => ?_)
    · obtain ⟨x, y, rfl, _⟩ := h; rfl
    · obtain ⟨x, y, rfl, hd, hQ⟩ := h
      cases hd with
      | non | bl | int | str =>
        show ZSs _ _ _ _ _ _ [some _, some _, none] H
        fail "z0"
        all_goals first | (simp; exact hQ) | (simp_all; done)
      | lst hx hy hz hl hh =>
        rename_i p q xs ys
        show ZSs _ _ _ _ _ _ [some _, some _, none] H
        fail "z0"
        all_goals try (exfalso; omega)
        refine zs_forR pass_def rfl B.range ?_
        fail "zz"
        rw [sizeLine_eq] at hz
        refine ⟨by omega, by omega, fun i σ H' => ∃ o, σ = [some (.ref p), some (.ref q), o] ∧ H' = H, ⟨_, rfl, rfl⟩, ?_, ?_⟩
        · rintro i σ H' hi ⟨o, rfl, rfl⟩
          have hi1 : i < xs.length := by omega
          have hi2 : i < ys.length := by omega
          fail "zz"
          refine xw_lst hx (atI_nat (List.getElem?_eq_getElem hi1)) ?_
          fail "zz"
          refine xw_lst hy (atI_nat (List.getElem?_eq_getElem hi2)) ?_
          fail "zz"
          refine equal_do (hh i _ _ (List.getElem?_eq_getElem hi1) (List.getElem?_eq_getElem hi2)) ?_
          fail "za"
          rfl
        · rintro σ H' ⟨o, rfl, rfl⟩
          fail "zz"
          exact hQ
      | tup hx hy hz hl hh =>
        rename_i p q xs ys
        show ZSs _ _ _ _ _ _ [some _, some _, none] H
        fail "z0"
        all_goals try (exfalso; omega)
        refine zs_forR pass_def rfl B.range ?_
        fail "zz"
        rw [sizeLine_eq] at hz
        refine ⟨by omega, by omega, fun i σ H' => ∃ o, σ = [some (.ref p), some (.ref q), o] ∧ H' = H, ⟨_, rfl, rfl⟩, ?_, ?_⟩
        · rintro i σ H' hi ⟨o, rfl, rfl⟩
          have hi1 : i < xs.length := by omega
          have hi2 : i < ys.length := by omega
          fail "zz"
          refine xw_tup hx (atI_nat (List.getElem?_eq_getElem hi1)) ?_
          fail "zz"
          refine xw_tup hy (atI_nat (List.getElem?_eq_getElem hi2)) ?_
          fail "zz"
          refine equal_do (hh i _ _ (List.getElem?_eq_getElem hi1) (List.getElem?_eq_getElem hi2)) ?_
          fail "za"
          rfl
        · rintro σ H' ⟨o, rfl, rfl⟩
          fail "zz"
          exact hQ
/-- the same of plain data, within an except suite -/
theorem ok_equalH {f : Addr} {fd : FuncData} (F : Fun K "_law_equal" "_law_equal" S__law_equal f fd) (B : Blt mg) : L2H.FnH P w K mg base (L2N.CX P w) 1 f fd ["actual", "expected"] spEqS := by
  have S := nk__law_equal
  refine FunH.ok F sc__law_equal (fun vs H Q E h => ?_) (fun cdv A outer s H vs Q E p hot hr h => ?_)
  · obtain ⟨x, rfl, _⟩ := h; rfl
  · obtain ⟨x, rfl, hd, hQ⟩ := h
    cases hd
    all_goals
      show ZSs _ _ _ _ _ _ [some _, some _, none] H
      refine zss_cons ?_
      fail "za"
      all_goals first | (simp; exact hQ) | (simp_all; done)

def spBase : Sp := fun vs H Q _ => ∃ p, vs = [.ref p] ∧ Src H p ∧ ∀ b H', 2 ≤ b → b ≤ 36 → Same H H' → Q (.int b) H'
theorem base_do {p : Addr} {H : Hp} {Q : VK} {E : XK} (h3 : Src H p) (h : ∀ b H', 2 ≤ b → b ≤ 36 → Same H H' → Q (.int b) H') : spBase [.ref p] H Q E := ⟨p, rfl, h3, h⟩
local macro_rules | `(tactic| fail "zP") => `(tactic| (with_reducible refine' base_do ?h3 (fun _ _ _ _ _ => ?h)); (case h3 => fail "zsrc"))
theorem ok_base {f : Addr} {fd : FuncData} (F : Fun K "_law_base" "_law_base" S__law_base f fd) (c1 : Cal P w K mg base 1 "_law_draw" spDraw) : FnOk P w K mg base (L2N.CX P w) 2 f fd ["source"] spBase := by
  have S := nk__law_base
  refine F.okN sc__law_base (fun vs H Q E h => ?_) (fun cdv A outer s H vs Q E hr h => ?_)
  · obtain ⟨p, rfl, _⟩ := h; rfl
  · obtain ⟨p, rfl, hs, hQ⟩ := h
    show ZSs _ _ _ _ _ _ [some (.ref p), none] H
    fail "z0"
    · exact hQ _ _ (by omega) (by omega) (by fail "zsm")
    · exact hQ _ _ (by omega) (by omega) (by fail "zsm")
    · rename_i v v0 v9
      refine xw_lstP (P := fun v => ∃ i, v = .int i ∧ 2 ≤ i ∧ i ≤ 36) (SqL.of (xs := [.int 10, .int 16, .int 2, .int 3, .int 36]) (by fail "zh")) v0 v9 ?_ ?_
      · exact All.cons ⟨_, rfl, by decide, by decide⟩ (All.cons ⟨_, rfl, by decide, by decide⟩ (All.cons ⟨_, rfl, by decide, by decide⟩ (All.cons ⟨_, rfl, by decide, by decide⟩ (All.cons ⟨_, rfl, by decide, by decide⟩ All.nil))))
      · rintro v ⟨i, rfl, h1, h2⟩
        exact hQ _ _ h1 h2 (by fail "zsm")

def spCB (C : Addr) : Sp := fun vs H Q E => ∃ b : Int, vs = [.int b] ∧ (2 ≤ b ∧ b ≤ 36 → Q .non H) ∧ (¬ (2 ≤ b ∧ b ≤ 36) → ∀ d, H d = none → E (.ref C) (some d) (upd H d (.xd [("base", .int b)])))
theorem cb_do {C : Addr} {b : Int} {H : Hp} {Q : VK} {E : XK} (h : 2 ≤ b ∧ b ≤ 36 → Q .non H) (h2 : ¬ (2 ≤ b ∧ b ≤ 36) → ∀ d, NoA H d → E (.ref C) (some d) (upd H d (.xd [("base", .int b)]))) : spCB C [.int b] H Q E := ⟨b, rfl, h, fun hz d n => h2 hz d ⟨n⟩⟩
local macro_rules | `(tactic| fail "zP") => `(tactic| (with_reducible refine cb_do (fun _ => ?_) (fun _ _ _ => ?_)))
theorem ok_cb {f C : Addr} {fd : FuncData} (F : Fun K "check_base" "check_base" S_check_base f fd) (cB : XCls P K mg "BadBase" C ["base"]) : FnOk P w K mg base (L2N.CX P w) 2 f fd ["base"] (spCB C) := by
  have S := nk_check_base
  refine F.okN sc_check_base (fun vs H Q E h => ?_) (fun cdv A outer s H vs Q E hr h => ?_)
  · obtain ⟨z, rfl, _⟩ := h; rfl
  · obtain ⟨b, rfl, h1, h2⟩ := h
    show ZSs _ _ _ _ _ _ [some (.int b)] H
    fail "z0"
    all_goals first
      | exact h1 ⟨by assumption, by assumption⟩
      | exact h2 (fun h => absurd h.1 (by assumption)) _ (by fail "zno")
      | exact h2 (fun h => absurd h.2 (by assumption)) _ (by fail "zno")

/-! the class Grid -/
abbrev FGrid (K : PySem.W.Frag) (f : Addr) (fd : FuncData) : Prop := FunD K "__init__" "Grid.__init__" (defArgs S_Grid___init__) (defBody S_Grid___init__) (defScope S_Grid___init__) [] [("bottom", .non), ("top", .non)] f fd
abbrev psGrid : List Str := ["self", "base", "precision", "bottom", "top"]
theorem bind_g0 {f : Addr} {fd : FuncData} (F : FGrid K f fd) : ∃ ds, Vals [V.non, V.non] ds ∧ Binds K fd psGrid ds :=
  FunD.binds0 (ps := psGrid) F 3 (by simp) rfl fun D doc pm an cdv ct us ks hl hk => match us, hl, ks, hk with | [_, _, _], _, [_, _], _ => ⟨_, _, _, _, _, _, rfl, rfl, _, _, _, _, _, _, rfl, rfl, rfl⟩
theorem vals_cat {vs ws : List V} {us xs : List Value} (a : Vals vs us) (b : Vals ws xs) : Vals (vs ++ ws) (us ++ xs) := a.append b
theorem bind_gb {f : Addr} {fd : FuncData} (F : FGrid K f fd) : ∃ mv : List Value, KBn K fd psGrid 3 ["bottom"] (fun us ws => us ++ (ws ++ mv)) (fun vs zs => vs ++ (zs ++ [V.non])) :=
  FunD.kbinds0 (ps := psGrid) F 3 ["bottom"] [("top", .non)] (fun us mv ws => us ++ (ws ++ mv)) (by simp) (by simp) (fun a b c => vals_cat a (vals_cat c b)) fun D doc pm an cdv ct us mv ws hl hm hw => match us, hl, mv, hm, ws, hw with | [_, _, _], _, [_], _, [_], _ => ⟨_, _, _, _, _, _, rfl, rfl, rfl⟩
theorem bind_gt {f : Addr} {fd : FuncData} (F : FGrid K f fd) : ∃ mv : List Value, KBn K fd psGrid 3 ["top"] (fun us ws => us ++ (mv ++ ws)) (fun vs zs => vs ++ ([V.non] ++ zs)) :=
  FunD.kbinds0 (ps := psGrid) F 3 ["top"] [("bottom", .non)] (fun us mv ws => us ++ (mv ++ ws)) (by simp) (by simp) (fun a b c => vals_cat a (vals_cat b c)) fun D doc pm an cdv ct us mv ws hl hm hw => match us, hl, mv, hm, ws, hw with | [_, _, _], _, [_], _, [_], _ => ⟨_, _, _, _, _, _, rfl, rfl, rfl⟩
theorem bind_gbt {f : Addr} {fd : FuncData} (F : FGrid K f fd) : ∃ mv : List Value, KBn K fd psGrid 3 ["bottom", "top"] (fun us ws => us ++ (mv ++ ws)) (fun vs zs => vs ++ ([] ++ zs)) :=
  FunD.kbinds0 (ps := psGrid) F 3 ["bottom", "top"] [] (fun us mv ws => us ++ (mv ++ ws)) (by simp) (by simp) (fun a b c => vals_cat a (vals_cat b c)) fun D doc pm an cdv ct us mv ws hl hm hw => match us, hl, mv, hm, ws, hw with | [_, _, _], _, [], _, [_, _], _ => rfl
/-- what the written part says of Grid -/
structure GrTxt (K : PySem.W.Frag) (mg : Str → Option Value) (C : Addr) : Prop where
  I : ClsI K C
  g : mg "Grid" = some (.ref C)
  nb : NoAttr K C "base"
  np : NoAttr K C "precision"
  nbo : NoAttr K C "bottom"
  nt : NoAttr K C "top"
  rd : ∃ mc, ClX.CRead K C mc ∧ (∃ u, ClX.CVal K C mc "LEAST" (.int 3) u) ∧ (∃ u, ClX.CVal K C mc "MOST" (.int 200) u)
/-- a border: none or a whole number -/
def ov : Option Int → V
  | none => .non
  | some i => .int i
def fsG (b n : Int) (bo to : Option Int) : List (Str × V) := [("base", .int b), ("precision", .int n), ("bottom", ov bo), ("top", ov to)]
/-- a grid at p -/
def GrF (C : Addr) (H : Hp) (p : Addr) (b n : Int) (bo to : Option Int) : Prop := ∃ dx, H p = some (.ins C dx (fsG b n bo to))
theorem GrF.same {C : Addr} {H H' : Hp} {p : Addr} {b n : Int} {bo to : Option Int} (h : GrF C H p b n bo to) (s : Same H H') : GrF C H' p b n bo to := ⟨_, s _ _ h.choose_spec⟩
def okB : Option Int → Option Int → Prop
  | some x, some y => x ≤ y
  | _, _ => True
def spGI (C CB CG : Addr) : Sp := fun vs H Q E => ∃ (p dx : Addr) (b n : Int) (bo to : Option Int), vs = [.ref p, .int b, .int n, ov bo, ov to] ∧ H p = some (.ins C dx []) ∧
  (2 ≤ b → b ≤ 36 → 3 ≤ n → n ≤ 200 → okB bo to → ∀ H', (∀ a o, a ≠ p → H a = some o → H' a = some o) → H' p = some (.ins C dx (fsG b n bo to)) → Q .non H') ∧
  (¬ (2 ≤ b ∧ b ≤ 36) → ∀ d, NoA H d → E (.ref CB) (some d) (upd H d (.xd [("base", .int b)]))) ∧
  (2 ≤ b → b ≤ 36 → ¬ (3 ≤ n ∧ n ≤ 200) → ∀ d, NoA H d → E (.ref CG) (some d) (upd H d (.xd [("what", .str "precision")]))) ∧
  (2 ≤ b → b ≤ 36 → 3 ≤ n → n ≤ 200 → ¬ okB bo to → ∀ d, NoA H d → E (.ref CG) (some d) (upd H d (.xd [("what", .str "borders")])))
section
local macro_rules | `(tactic| fail "zP") => `(tactic| (with_reducible refine cb_do (fun ⟨_, _⟩ => ?_) (fun _ _ _ => ?_)))
theorem ok_gini {f C CB CG : Addr} {fd : FuncData} (F : FGrid K f fd) (T : GrTxt K mg C) (cB : Cal P w K mg base 2 "check_base" (spCB CB)) (cG : XCls P K mg "BadGrid" CG ["what"]) : FnOk P w K mg base (L2N.CX P w) 3 f fd psGrid (spGI C CB CG) := by
  have S := nk_Grid___init__
  obtain ⟨I, gG, nb, np, nbo, nt, mc, rd, ⟨u1, v1⟩, u2, v2⟩ := T
  have cl := I.cl
  refine F.okN sc_Grid___init__ (fun vs H Q E h => ?_) (fun cdv A outer s H vs Q E hr h => ?_)
  · obtain ⟨p, dx, b, n, bo, to, rfl, _⟩ := h; rfl
  · obtain ⟨p, dx, b, n, bo, to, rfl, hp, h1, h2, h3, h4⟩ := h
    unfold okB at h1 h4
    unfold fsG at h1
    rcases bo with _ | x <;> rcases to with _ | y <;> simp only [ov] at *
    all_goals
      show ZSs _ _ _ _ _ _ [some (.ref p), some (.int b), some (.int n), some _, some _] H
      fail "z0"
    all_goals first
      | exact h2 (by assumption) _ (by assumption)
      | exact h3 (by omega) (by omega) (by omega) _ (by assumption)
      | exact h4 (by omega) (by omega) (by omega) (by omega) (by omega) _ (by assumption)
      | exact h1 (by omega) (by omega) (by omega) (by omega) (by first | trivial | omega) _ (fun a o na ha => by rw [upd_ne na, upd_ne na, upd_ne na, upd_ne na]; exact ha) upd_same
end

/-- a grid as it is made -/
structure Gd (G : Addr) (H : Hp) (p : Addr) (b : Int) (n : Nat) (bo to : Option Int) : Prop where
  f : GrF G H p b n bo to
  b1 : 2 ≤ b
  b9 : b ≤ 36
  n1 : 3 ≤ n
  n9 : n ≤ 200
theorem Gd.same {G : Addr} {H H' : Hp} {p : Addr} {b : Int} {n : Nat} {bo to : Option Int} (h : Gd G H p b n bo to) (s : Same H H') : Gd G H' p b n bo to := ⟨h.f.same s, h.b1, h.b9, h.n1, h.n9⟩

/-! a grid made by the law from a row -/
theorem gini_of {G CB CG a dx : Addr} {b : Int} {n : Nat} {bo to : Option Int} {H : Hp} {R : VK} {E : XK} (n1 : NoA H a) (n2 : NoA H dx) (b1 : 2 ≤ b) (b9 : b ≤ 36) (l1 : 3 ≤ n) (l9 : n ≤ 200) (ok : okB bo to)
    (h : ∀ H', Same H H' → Gd G H' a b n bo to → R .non H') : spGI G CB CG [.ref a, .int b, .int n, ov bo, ov to] (upd (upd H dx (.own a)) a (.ins G dx [])) R E := by
  have s1 : Same H (upd (upd H dx (.own a)) a (.ins G dx [])) := .put (.put (.refl _) n2.e) n1.e
  refine ⟨a, dx, b, n, bo, to, rfl, upd_same, fun _ _ _ _ _ H' k hp => h H' (fun x o hx => k x o (ne_of_none hx n1.e) (s1 x o hx)) ⟨⟨dx, hp⟩, b1, b9, l1, l9⟩, fun z => absurd ⟨b1, b9⟩ z, fun _ _ z => absurd ⟨by omega, by omega⟩ z, fun _ _ _ _ z => absurd ok z⟩
def spG0 (G CB CG : Addr) : Sp := fun vs H Q E => ∃ (p : Addr) (b n : Int), vs = [.ref p, .int b, .int n] ∧ spGI G CB CG [.ref p, .int b, .int n, .non, .non] H Q E
def spGb (G CB CG : Addr) : Sp := fun vs H Q E => ∃ (p : Addr) (b n x : Int), vs = [.ref p, .int b, .int n, .int x] ∧ spGI G CB CG [.ref p, .int b, .int n, .int x, .non] H Q E
def spGt (G CB CG : Addr) : Sp := fun vs H Q E => ∃ (p : Addr) (b n x : Int), vs = [.ref p, .int b, .int n, .int x] ∧ spGI G CB CG [.ref p, .int b, .int n, .non, .int x] H Q E
def spGbt (G CB CG : Addr) : Sp := fun vs H Q E => ∃ (p : Addr) (b n x y : Int), vs = [.ref p, .int b, .int n, .int x, .int y] ∧ spGI G CB CG [.ref p, .int b, .int n, .int x, .int y] H Q E
/-- the four ways to make a grid -/
structure GrCal (P : Program) (w : World) (K : PySem.W.Frag) (mg : Str → Option Value) (base : Heap) (G CB CG : Addr) : Prop where
  c0 : CalC P w K mg base 3 "Grid" G (spG0 G CB CG)
  cb : CalCK P w K mg base 3 "Grid" G 2 ["bottom"] (spGb G CB CG)
  ct : CalCK P w K mg base 3 "Grid" G 2 ["top"] (spGt G CB CG)
  cbt : CalCK P w K mg base 3 "Grid" G 2 ["bottom", "top"] (spGbt G CB CG)
theorem grid_cals {f G CB CG : Addr} {fd : FuncData} (M : L2.Mk K G f) (F : FGrid K f fd) (gm : mg "Grid" = some (.ref G)) (ok : FnOk P w K mg base (L2N.CX P w) 3 f fd psGrid (spGI G CB CG)) : GrCal P w K mg base G CB CG := by
  constructor
  · refine ⟨f, fd, _, _, M, ok, gm, fun vs H Q E h => ?_⟩
    obtain ⟨p, b, n, rfl, h⟩ := h
    obtain ⟨ds, v, bd⟩ := bind_g0 F
    exact ⟨[.non, .non], ds, bd, v, h⟩
  · obtain ⟨mv, kb⟩ := bind_gb F
    refine ⟨f, fd, _, _, _, _, M, ok, gm, kb, fun r vs zs H Q E h l1 l2 => ?_⟩
    obtain ⟨p, b, n, x, e, h⟩ := h
    match vs, zs, l1, l2 with
    | [v1, v2], [z], _, _ => cases e; exact h
  · obtain ⟨mv, kb⟩ := bind_gt F
    refine ⟨f, fd, _, _, _, _, M, ok, gm, kb, fun r vs zs H Q E h l1 l2 => ?_⟩
    obtain ⟨p, b, n, x, e, h⟩ := h
    match vs, zs, l1, l2 with
    | [v1, v2], [z], _, _ => cases e; exact h
  · obtain ⟨mv, kb⟩ := bind_gbt F
    refine ⟨f, fd, _, _, _, _, M, ok, gm, kb, fun r vs zs H Q E h l1 l2 => ?_⟩
    obtain ⟨p, b, n, x, y, e, h⟩ := h
    match vs, zs, l1, l2 with
    | [v1, v2], [z1, z2], _, _ => cases e; exact h
/-- the law's row of a grid -/
def RowG (H : Hp) (r : Addr) (b : Int) (n : Nat) (bo to : Option Int) : Prop := H r = some (.lst [.int b, .int n, ov bo, ov to])
theorem RowG.same {H H' : Hp} {r : Addr} {b : Int} {n : Nat} {bo to : Option Int} (h : RowG H r b n bo to) (s : Same H H') : RowG H' r b n bo to := s _ _ h
def spGMade (G : Addr) : Sp := fun vs H Q _ => ∃ (r : Addr) (b : Int) (n : Nat) (bo to : Option Int), vs = [.ref r] ∧ RowG H r b n bo to ∧ 2 ≤ b ∧ b ≤ 36 ∧ 3 ≤ n ∧ n ≤ 200 ∧ okB bo to ∧ ∀ g H', Same H H' → NoA H g → Gd G H' g b n bo to → Q (.ref g) H'
theorem gmade_do {G r : Addr} {b : Int} {n : Nat} {bo to : Option Int} {H : Hp} {Q : VK} {E : XK} (h : RowG H r b n bo to) (b1 : 2 ≤ b) (b9 : b ≤ 36) (l1 : 3 ≤ n) (l9 : n ≤ 200) (ok : okB bo to) (k : ∀ g H', Same H H' → NoA H g → Gd G H' g b n bo to → Q (.ref g) H') : spGMade G [.ref r] H Q E := ⟨r, b, n, bo, to, rfl, h, b1, b9, l1, l9, ok, k⟩
theorem ok_gmade {f G CB CG : Addr} {fd : FuncData} (F : Fun K "_law_grid_made" "_law_grid_made" S__law_grid_made f fd) (C : GrCal P w K mg base G CB CG) : FnOk P w K mg base (L2N.CX P w) 5 f fd ["row"] (spGMade G) := by
  have S := nk__law_grid_made
  obtain ⟨c0, cb, ct, cbt⟩ := C
  refine F.okN sc__law_grid_made (fun vs H Q E h => ?_) (fun cdv A outer s H vs Q E hr h => ?_)
  · obtain ⟨r, b, n, bo, to, rfl, _⟩ := h; rfl
  · obtain ⟨r, b, n, bo, to, rfl, hr', b1, b9, l1, l9, ok, hQ⟩ := h
    unfold RowG at hr'
    rcases bo with _ | x <;> rcases to with _ | y <;> simp only [ov] at *
    all_goals
      show ZSs _ _ _ _ _ _ [some (.ref r)] H
      fail "z0"
    · rename_i a d na nd nn
      exact ⟨_, _, _, rfl, gini_of (bo := none) (to := none) na nd b1 b9 l1 l9 ok fun H' s g => ⟨rfl, hQ _ _ s na g⟩⟩
    · rename_i a d na nd nn
      exact ⟨_, _, _, _, rfl, gini_of (bo := none) (to := some y) na nd b1 b9 l1 l9 ok fun H' s g => ⟨rfl, hQ _ _ s na g⟩⟩
    · rename_i a d na nd nn
      exact ⟨_, _, _, _, rfl, gini_of (bo := some x) (to := none) na nd b1 b9 l1 l9 ok fun H' s g => ⟨rfl, hQ _ _ s na g⟩⟩
    · rename_i a d na nd nn
      exact ⟨_, _, _, _, _, rfl, gini_of (bo := some x) (to := some y) na nd b1 b9 l1 l9 ok fun H' s g => ⟨rfl, hQ _ _ s na g⟩⟩

/-- a precision -/
def spPrec : Sp := fun vs H Q _ => ∃ (p : Addr) (m : Int), vs = [.ref p, .int m] ∧ Src H p ∧ 8 ≤ m ∧ m ≤ 300 ∧ ∀ n : Nat, 3 ≤ n → (n : Int) ≤ m → Q (.int n) H
theorem prec_do {p : Addr} {m : Int} {H : Hp} {Q : VK} {E : XK} (h0 : Src H p) (h1 : 8 ≤ m) (h2 : m ≤ 300) (h : ∀ n : Nat, 3 ≤ n → (n : Int) ≤ m → Q (.int n) H) : spPrec [.ref p, .int m] H Q E := ⟨p, m, rfl, h0, h1, h2, h⟩
theorem ok_prec {f : Addr} {fd : FuncData} (F : Fun K "_law_precision" "_law_precision" S__law_precision f fd) (cD : Cal P w K mg base 1 "_law_draw" spDraw) : FnOk P w K mg base (L2N.CX P w) 2 f fd ["source", "most"] spPrec := by
  have S := nk__law_precision
  refine F.okN sc__law_precision (fun vs H Q E h => ?_) (fun cdv A outer s H vs Q E hr h => ?_)
  · obtain ⟨p, m, rfl, _⟩ := h; rfl
  · obtain ⟨p, m, rfl, hp, h1, h2, hQ⟩ := h
    show ZSs _ _ _ _ _ _ [some (.ref p), some (.int m)] H
    fail "z0"
    all_goals
      rename_i v v0 v9
      rw [show 3 + v = ((3 + v).toNat : Nat) by omega]
      exact hQ _ (by omega) (by omega)

def spSmall : Sp := fun vs H Q _ => ∃ s : Addr, vs = [.ref s] ∧ Src H s ∧ ∀ v, -20 ≤ v → v ≤ 20 → Q (.int v) H
theorem small_do {s : Addr} {H : Hp} {Q : VK} {E : XK} (h0 : Src H s) (h : ∀ v, -20 ≤ v → v ≤ 20 → Q (.int v) H) : spSmall [.ref s] H Q E := ⟨s, rfl, h0, h⟩
theorem ok_small {f : Addr} {fd : FuncData} (F : Fun K "_law_small" "_law_small" S__law_small f fd) (cD : Cal P w K mg base 1 "_law_draw" spDraw) : FnOk P w K mg base (L2N.CX P w) 2 f fd ["source"] spSmall := by
  have S := nk__law_small
  refine F.okN sc__law_small (fun vs H Q E h => ?_) (fun cdv A outer s H vs Q E hr h => ?_)
  · obtain ⟨p, rfl, _⟩ := h; rfl
  · obtain ⟨p, rfl, hp, hQ⟩ := h
    show ZSs _ _ _ _ _ _ [some (.ref p), none] H
    fail "z0"
    all_goals exact hQ _ (by omega) (by omega)

/-! the law's grid -/
/-- a statement by its own end: Iv -/
theorem zss_cut {X : Cx} {s : Stmt} {rest : List Stmt} {nx bk ct : NX} {rt : VK} {σ : L2.St} {H : Hp} (Iv : L2.St → Hp → Prop) (h1 : ∀ nx' : NX, (∀ σ1 H1, Iv σ1 H1 → nx' σ1 H1) → ZS X s nx' rt bk ct σ H) (h2 : ∀ σ1 H1, Iv σ1 H1 → ZSs X rest nx rt bk ct σ1 H1) : ZSs X (s :: rest) nx rt bk ct σ H := zss_cons (h1 _ h2)
/-- borders as they are drawn -/
def drB : Option Int → Option Int → Prop
  | none, none => True
  | some x, none => -20 ≤ x ∧ x ≤ 20
  | none, some y => -20 ≤ y ∧ y ≤ 20
  | some x, some y => -20 ≤ x ∧ x ≤ 20 ∧ x ≤ y ∧ y ≤ x + 11
theorem drB.ok {bo to : Option Int} (h : drB bo to) : okB bo to := by
  rcases bo with _ | x <;> rcases to with _ | y <;> first | trivial | exact h.2.2.1
theorem drB.bo {x : Int} {to : Option Int} (h : drB (some x) to) : -20 ≤ x ∧ x ≤ 20 := by
  rcases to with _ | y
  · exact h
  · exact ⟨h.1, h.2.1⟩
theorem drB.to {y : Int} {bo : Option Int} (h : drB bo (some y)) : -20 ≤ y ∧ y ≤ 31 := by
  rcases bo with _ | y
  · obtain ⟨h1, h2⟩ := h; omega
  · obtain ⟨h1, h2, h3, h4⟩ := h; omega
def spGridL : Sp := fun vs H Q _ => ∃ s : Addr, vs = [.ref s] ∧ Src H s ∧ ∀ r (b : Int) (n : Nat) bo to H', Same H H' → NoA H r → RowG H' r b n bo to → 2 ≤ b → b ≤ 36 → 3 ≤ n → n ≤ 40 → drB bo to → Q (.ref r) H'
theorem gridl_do {s : Addr} {H : Hp} {Q : VK} {E : XK} (h : Src H s) (k : ∀ r (b : Int) (n : Nat) bo to H', Same H H' → NoA H r → RowG H' r b n bo to → 2 ≤ b → b ≤ 36 → 3 ≤ n → n ≤ 40 → drB bo to → Q (.ref r) H') : spGridL [.ref s] H Q E := ⟨s, rfl, h, k⟩
section
local macro_rules | `(tactic| fail "zP") => `(tactic| first
  | (with_reducible refine small_do (by fail "zsrc") (fun _ _ _ => ?_))
  | (with_reducible refine prec_do (by fail "zsrc") (by omega) (by omega) (fun _ _ _ => ?_)))
theorem ok_gridl {f : Addr} {fd : FuncData} (F : Fun K "_law_grid" "_law_grid" S__law_grid f fd) (cD : Cal P w K mg base 1 "_law_draw" spDraw) (cB : Cal P w K mg base 2 "_law_base" spBase) (cP : Cal P w K mg base 2 "_law_precision" spPrec) (cS : Cal P w K mg base 2 "_law_small" spSmall) : FnOk P w K mg base (L2N.CX P w) 3 f fd ["source"] spGridL := by
  have S := nk__law_grid
  refine F.okN sc__law_grid (fun vs H Q E h => ?_) (fun cdv A outer s H vs Q E hr h => ?_)
  · obtain ⟨p, rfl, _⟩ := h; rfl
  · obtain ⟨p, rfl, hp, hQ⟩ := h
    show ZSs _ _ _ _ _ _ [some (.ref p), none, none, none, none, none] H
    fail "z0"
    all_goals first
      | (exfalso; omega)
      | (rename_i r nr; exact hQ r _ _ (some _) (some _) _ (by fail "zsm") ⟨NoA.free (by fail "zsm") nr⟩ upd_same (by assumption) (by assumption) (by omega) (by omega) (by simp only [drB]; omega))
      | (rename_i r nr; exact hQ r _ _ (some _) none _ (by fail "zsm") ⟨NoA.free (by fail "zsm") nr⟩ upd_same (by assumption) (by assumption) (by omega) (by omega) (by simp only [drB]; omega))
      | (rename_i r nr; exact hQ r _ _ none (some _) _ (by fail "zsm") ⟨NoA.free (by fail "zsm") nr⟩ upd_same (by assumption) (by assumption) (by omega) (by omega) (by simp only [drB]; omega))
      | (rename_i r nr; exact hQ r _ _ none none _ (by fail "zsm") ⟨NoA.free (by fail "zsm") nr⟩ upd_same (by assumption) (by assumption) (by omega) (by omega) trivial)
end

/-! words: == and != beside own classes -/
local macro_rules | `(tactic| fail "ztb") => `(tactic| first | assumption | exact TyB.non | exact TyB.int _ | exact TyB.str _ | exact TyB.bl _ | exact TyB.lst (SqL.of (by fail "zh")) | exact TyB.tup (SqT.of (by fail "zh")))
local macro_rules | `(tactic| fail "zb6") => `(tactic| first | assumption | exact .inl rfl | exact .inr (.inl rfl) | exact .inr (.inr (.inl rfl)) | exact .inr (.inr (.inr (.inl rfl))) | exact .inr (.inr (.inr (.inr (.inl rfl)))) | exact .inr (.inr (.inr (.inr (.inr rfl)))))
local macro_rules | `(tactic| fail "zOwn") => `(tactic| first
  | ((with_reducible refine' ow_eqB ?cm ?hT ‹Room _ _› ?hk ?hX ?ea ?b ?k); (case ea => fail "zh"); (case b => fail "ztb"); (case cm => (with_reducible assumption)); (case hT => fail "zb6"); (case hk => fail "zlev"); (case hX => exact ⟨rfl, rfl, rfl, rfl, rfl, rfl⟩))
  | ((with_reducible refine' ow_Beq ?cm ?N ?hT ‹Room _ _› ?hk ?hX ?ea ?b ?k); (case ea => fail "zh"); (case b => fail "ztb"); (case cm => (with_reducible assumption)); (case N => assumption); (case hT => fail "zb6"); (case hk => fail "zlev"); (case hX => exact ⟨rfl, rfl, rfl, rfl, rfl, rfl⟩))
  | ((with_reducible refine' ow_neO ?cm ?hn ?hm ‹Room _ _› ?hk ?hX ?ea ?ht ?k); (case ea => fail "zh"); (case cm => (with_reducible assumption)); (case hX => exact ⟨rfl, rfl, rfl, rfl, rfl, rfl⟩); (case hn => assumption); (case hm => assumption); (case hk => fail "zlev"); (case ht => first | (refine' Or.inr ⟨_, _, _, _, rfl, ?eb, ?nf⟩; (case eb => fail "zh"); (case nf => first | exact notFirst_self | assumption)) | (refine' Or.inl ⟨_, ?b6, ?tb⟩; (case tb => fail "ztb"); (case b6 => fail "zb6"))))
  | ((with_reducible refine' ow_cmpO ?bm ?cm ‹Room _ _› ?hk ?hX ?ea ?eb ?k); (case bm => fail "zcm"); (case ea => fail "zh"); (case eb => fail "zh"); (case cm => (with_reducible assumption)); (case hk => fail "zlev"); (case hX => exact ⟨rfl, rfl, rfl, rfl, rfl, rfl⟩)))

/-! words: classmethods -/
local macro_rules | `(tactic| fail "zM") => `(tactic| ((with_reducible refine' s_cmeth ?c ‹Room _ _› ?hk ?hX ?k ?hst ?hpl ?ht); (case c => (with_reducible assumption)); (case hk => fail "zlev"); (case hX => exact ⟨rfl, rfl, rfl, rfl, rfl, rfl⟩); (case hst => rfl); (case hpl => rfl); (case ht => rfl)))
local macro_rules | `(tactic| fail "zD") => `(tactic| ((with_reducible refine' s_makeL ‹NOk _ _ _› ?ha ?hi ?hN ?c ‹Room _ _› ?hk ?hX ?k ?he ?hpl); (case ha => fail "at"); (case hi => decide); (case hN => exact ⟨rfl, rfl⟩); (case c => (with_reducible assumption)); (case hk => fail "zlev"); (case hX => exact ⟨rfl, rfl, rfl, rfl, rfl, rfl⟩); (case he => rfl); (case hpl => rfl)))

/-! law_k12 -/
def spGbtO (G CB CG : Addr) : Sp := fun vs H Q E => ∃ (p : Addr) (b n : Int) (bo to : Option Int), vs = [.ref p, .int b, .int n, ov bo, ov to] ∧ spGI G CB CG [.ref p, .int b, .int n, ov bo, ov to] H Q E
theorem grid_calO {f G CB CG : Addr} {fd : FuncData} (M : L2.Mk K G f) (F : FGrid K f fd) (gm : mg "Grid" = some (.ref G)) (ok : FnOk P w K mg base (L2N.CX P w) 3 f fd psGrid (spGI G CB CG)) : CalCK P w K mg base 3 "Grid" G 2 ["bottom", "top"] (spGbtO G CB CG) := by
  obtain ⟨mv, kb⟩ := bind_gbt F
  refine ⟨f, fd, _, _, _, _, M, ok, gm, kb, fun r vs zs H Q E h l1 l2 => ?_⟩
  obtain ⟨p, b, n, bo, to, e, h⟩ := h
  match vs, zs, l1, l2 with
  | [v1, v2], [z1, z2], _, _ => cases e; exact h
/-- a grid that is made or refused: what follows -/
structure GOut (G CB CG : Addr) (b n : Int) (bo to : Option Int) (H : Hp) (Q : Addr → Hp → Prop) (E : XK) : Prop where
  made : 2 ≤ b → b ≤ 36 → 3 ≤ n → n ≤ 200 → okB bo to → ∀ g H', Same H H' → GrF G H' g b n bo to → Q g H'
  base : ¬ (2 ≤ b ∧ b ≤ 36) → ∀ d H', Same H H' → NoA H d → H' d = some (.xd [("base", .int b)]) → E (.ref CB) (some d) H'
  prec : 2 ≤ b → b ≤ 36 → ¬ (3 ≤ n ∧ n ≤ 200) → ∀ d H', Same H H' → NoA H d → H' d = some (.xd [("what", .str "precision")]) → E (.ref CG) (some d) H'
  bord : 2 ≤ b → b ≤ 36 → 3 ≤ n → n ≤ 200 → ¬ okB bo to → ∀ d H', Same H H' → NoA H d → H' d = some (.xd [("what", .str "borders")]) → E (.ref CG) (some d) H'
theorem GOut.gi {G CB CG a dx : Addr} {b n : Int} {bo to : Option Int} {H : Hp} {Q : Addr → Hp → Prop} {R : VK} {E : XK} (n1 : NoA H a) (n2 : NoA H dx) (o : GOut G CB CG b n bo to H Q E) (k : ∀ H', Q a H' → R .non H') : spGI G CB CG [.ref a, .int b, .int n, ov bo, ov to] (upd (upd H dx (.own a)) a (.ins G dx [])) R E := by
  have s1 : Same H (upd (upd H dx (.own a)) a (.ins G dx [])) := .put (.put (.refl _) n2.e) n1.e
  refine ⟨a, dx, b, n, bo, to, rfl, upd_same, fun b1 b9 l1 l9 ok H' kk hp => k H' (o.made b1 b9 l1 l9 ok a H' (fun x o hx => kk x o (ne_of_none hx n1.e) (s1 x o hx)) ⟨dx, hp⟩), fun z d nd => o.base z d _ (.new s1 nd.e) ⟨nd.free s1⟩ upd_same, fun z1 z2 z3 d nd => o.prec z1 z2 z3 d _ (.new s1 nd.e) ⟨nd.free s1⟩ upd_same, fun z1 z2 z3 z4 z5 d nd => o.bord z1 z2 z3 z4 z5 d _ (.new s1 nd.e) ⟨nd.free s1⟩ upd_same⟩
def spBin (G CB CG : Addr) (b : Int) : Sp := fun vs H Q E => ∃ (n : Int), vs = [.ref G, .int n] ∧ GOut G CB CG b n none none H (fun g H' => Q (.ref g) H') E
theorem ok_bin {f G CB CG : Addr} {fd : FuncData} (F : Fun K "binary" "Grid.binary" S_Grid_binary f fd) (c0 : CalC P w K mg base 3 "Grid" G (spG0 G CB CG)) : FnOk P w K mg base (L2N.CX P w) 5 f fd ["cls", "precision"] (spBin G CB CG 2) := by
  have S := nk_Grid_binary
  refine F.okN sc_Grid_binary (fun vs H Q E h => ?_) (fun cdv A outer s H vs Q E hr h => ?_)
  · obtain ⟨n, rfl, _⟩ := h; rfl
  · obtain ⟨n, rfl, o⟩ := h
    show ZSs _ _ _ _ _ _ [some (.ref G), some (.int n)] H
    fail "z0"
    rename_i a d na nd nn
    refine ⟨_, _, _, rfl, GOut.gi (bo := none) (to := none) na nd ⟨o.made, fun z d H' s nd hd => xw_def (o.base z d H' s nd hd), fun z1 z2 z3 d H' s nd hd => xw_def (o.prec z1 z2 z3 d H' s nd hd), fun z1 z2 z3 z4 z5 d H' s nd hd => xw_def (o.bord z1 z2 z3 z4 z5 d H' s nd hd)⟩ fun H' q => ⟨rfl, q⟩⟩
theorem ok_dec {f G CB CG : Addr} {fd : FuncData} (F : Fun K "decimal" "Grid.decimal" S_Grid_decimal f fd) (c0 : CalC P w K mg base 3 "Grid" G (spG0 G CB CG)) : FnOk P w K mg base (L2N.CX P w) 5 f fd ["cls", "precision"] (spBin G CB CG 10) := by
  have S := nk_Grid_decimal
  refine F.okN sc_Grid_decimal (fun vs H Q E h => ?_) (fun cdv A outer s H vs Q E hr h => ?_)
  · obtain ⟨n, rfl, _⟩ := h; rfl
  · obtain ⟨n, rfl, o⟩ := h
    show ZSs _ _ _ _ _ _ [some (.ref G), some (.int n)] H
    fail "z0"
    rename_i a d na nd nn
    refine ⟨_, _, _, rfl, GOut.gi (bo := none) (to := none) na nd ⟨o.made, fun z d H' s nd hd => xw_def (o.base z d H' s nd hd), fun z1 z2 z3 d H' s nd hd => xw_def (o.prec z1 z2 z3 d H' s nd hd), fun z1 z2 z3 z4 z5 d H' s nd hd => xw_def (o.bord z1 z2 z3 z4 z5 d H' s nd hd)⟩ fun H' q => ⟨rfl, q⟩⟩
/-- the law's row of any numbers -/
def RowI (H : Hp) (r : Addr) (b n : Int) (bo to : Option Int) : Prop := H r = some (.lst [.int b, .int n, ov bo, ov to])
/-- what is due of a row -/
structure DueT (H : Hp) (b n : Int) (bo to : Option Int) (q : Addr) : Prop where
  base : ¬ (2 ≤ b ∧ b ≤ 36) → H q = some (.tup [.str "base", .int b])
  prec : 2 ≤ b → b ≤ 36 → ¬ (3 ≤ n ∧ n ≤ 200) → H q = some (.tup [.str "grid", .str "precision"])
  bord : 2 ≤ b → b ≤ 36 → 3 ≤ n → n ≤ 200 → ¬ okB bo to → H q = some (.tup [.str "grid", .str "borders"])
  made : 2 ≤ b → b ≤ 36 → 3 ≤ n → n ≤ 200 → okB bo to → ∃ l, H q = some (.tup [.str "made", .ref l]) ∧ H l = some (.lst [.int b, .int n, ov bo, ov to])
theorem DueT.same {H H' : Hp} {b n : Int} {bo to : Option Int} {q : Addr} (h : DueT H b n bo to q) (s : Same H H') : DueT H' b n bo to q :=
  ⟨fun z => s _ _ (h.base z), fun z1 z2 z3 => s _ _ (h.prec z1 z2 z3), fun z1 z2 z3 z4 z5 => s _ _ (h.bord z1 z2 z3 z4 z5), fun z1 z2 z3 z4 z5 => by obtain ⟨l, a, b⟩ := h.made z1 z2 z3 z4 z5; exact ⟨l, s _ _ a, s _ _ b⟩⟩
theorem ov_sc (o : Option Int) : Sc (ov o) := by cases o <;> constructor
theorem DueT.eq {K : PySem.W.Frag} {H : Hp} {b n : Int} {bo to : Option Int} {p q : Addr} (h : DueT H b n bo to p) (h2 : DueT H b n bo to q) : DEq K H 2 (.ref p) (.ref q) := by
  by_cases z : 2 ≤ b ∧ b ≤ 36
  · obtain ⟨b1, b9⟩ := z
    by_cases z : 3 ≤ n ∧ n ≤ 200
    · obtain ⟨n1, n9⟩ := z
      by_cases z : okB bo to
      · obtain ⟨l, a1, a2⟩ := h.made b1 b9 n1 n9 z
        obtain ⟨l', c1, c2⟩ := h2.made b1 b9 n1 n9 z
        refine .tup (SqT.of a1) (SqT.of c1) (Nat.le_of_ble_eq_true rfl) rfl fun i x y hx hy => ?_
        match i, hx, hy with
        | 0, hx, hy => simp at hx hy; subst hx; subst hy; exact .str _
        | 1, hx, hy => simp at hx hy; subst hx; subst hy; exact .lstS (SqL.of a2) (SqL.of c2) (Nat.le_of_ble_eq_true rfl) (Sc.cons (.int _) (Sc.cons (.int _) (Sc.cons (ov_sc _) (Sc.cons (ov_sc _) Sc.nil))))
        | i + 2, hx, hy => simp at hx
      · exact .tupS (SqT.of (h.bord b1 b9 n1 n9 z)) (SqT.of (h2.bord b1 b9 n1 n9 z)) (Nat.le_of_ble_eq_true rfl) (Sc.cons (.str _) (Sc.cons (.str _) Sc.nil))
    · exact .tupS (SqT.of (h.prec b1 b9 z)) (SqT.of (h2.prec b1 b9 z)) (Nat.le_of_ble_eq_true rfl) (Sc.cons (.str _) (Sc.cons (.str _) Sc.nil))
  · exact .tupS (SqT.of (h.base z)) (SqT.of (h2.base z)) (Nat.le_of_ble_eq_true rfl) (Sc.cons (.str _) (Sc.cons (.int _) Sc.nil))
def spDueL : Sp := fun vs H Q _ => ∃ (r : Addr) (b n : Int) (bo to : Option Int), vs = [.ref r] ∧ RowI H r b n bo to ∧ ∀ q H', Same H H' → NoA H q → DueT H' b n bo to q → Q (.ref q) H'
theorem due_do {r : Addr} {b n : Int} {bo to : Option Int} {H : Hp} {Q : VK} {E : XK} (h : RowI H r b n bo to) (k : ∀ q H', Same H H' → NoA H q → DueT H' b n bo to q → Q (.ref q) H') : spDueL [.ref r] H Q E := ⟨r, b, n, bo, to, rfl, h, k⟩
theorem ok_due {f : Addr} {fd : FuncData} (F : Fun K "_law_due" "_law_due" S__law_due f fd) : FnOk P w K mg base (L2N.CX P w) 1 f fd ["row"] spDueL := by
  have S := nk__law_due
  refine F.okN sc__law_due (fun vs H Q E h => ?_) (fun cdv A outer s H vs Q E hr h => ?_)
  · obtain ⟨r, b, n, bo, to, rfl, _⟩ := h; rfl
  · obtain ⟨r, b, n, bo, to, rfl, hrow, hQ⟩ := h
    unfold RowI at hrow
    have ob : ∀ {x y : Int}, bo = some x → to = some y → (okB bo to ↔ x ≤ y) := fun e1 e2 => by subst e1; subst e2; exact Iff.rfl
    have o1 : bo = none → okB bo to := fun e => by subst e; rcases to with _ | y <;> trivial
    have o2 : to = none → okB bo to := fun e => by subst e; rcases bo with _ | y <;> trivial
    have fin : ∀ {q : Addr} {xs : List V}, NoA H q → DueT (upd H q (.tup xs)) b n bo to q → Q (.ref q) (upd H q (.tup xs)) := fun nq d => hQ _ _ (.put (.refl _) nq.e) nq d
    rcases bo with _ | x <;> rcases to with _ | y <;> simp only [ov] at *
    all_goals
      show ZSs _ _ _ _ _ _ [some (.ref r)] H
      fail "z0"
    all_goals
      rename_i q nq
      refine fin nq ⟨fun z => ?_, fun z1 z2 z3 => ?_, fun z1 z2 z3 z4 z5 => ?_, fun z1 z2 z3 z4 z5 => ?_⟩
      all_goals first
        | exact upd_same
        | (exfalso; omega)
        | (exfalso; exact z5 trivial)
        | (exfalso; exact absurd z5 (show ¬ (_ ≤ _) by omega))
        | exact ⟨r, upd_same, by fail "zh"⟩
        | (exfalso; exact z5 (show _ ≤ _ by omega))
theorem GOut.imp {G CB CG : Addr} {b n : Int} {bo to : Option Int} {H : Hp} {Q Q' : Addr → Hp → Prop} {E : XK} (o : GOut G CB CG b n bo to H Q E) (k : ∀ g H', Q g H' → Q' g H') : GOut G CB CG b n bo to H Q' E := ⟨fun z1 z2 z3 z4 z5 g H' s h => k _ _ (o.made z1 z2 z3 z4 z5 g H' s h), o.base, o.prec, o.bord⟩
structure Errs (P : Program) (K : PySem.W.Frag) (mg : Str → Option Value) (CB CG CL : Addr) : Prop where
  eB : XCls P K mg "BadBase" CB ["base"]
  eG : XCls P K mg "BadGrid" CG ["what"]
  gL : mg "LostError" = some (.ref CL)
  mB : PySem.W.exmOne K (.ref CB) (.ref CL) = some true
  mG : PySem.W.exmOne K (.ref CG) (.ref CL) = some true
  b1 : PySem.W.kitOne K (.ref CB) (.ref CB) = some true
  b2 : PySem.W.kitOne K (.ref CB) (.type "ValueError") = some true
  b3 : PySem.W.kitOne K (.ref CB) (.ref CG) = some false
  g1 : PySem.W.kitOne K (.ref CG) (.ref CB) = some false
  g2 : PySem.W.kitOne K (.ref CG) (.ref CG) = some true
  g3 : PySem.W.kitOne K (.ref CG) (.type "ValueError") = some true
  nb : PySem.W.findIn K (.ref CB) "base" = some none
  nw : PySem.W.findIn K (.ref CG) "what" = some none
def WayR (way b : Int) (bo to : Option Int) (b' : Int) (bo' to' : Option Int) : Prop := (way = 2 ∧ b' = 2 ∧ bo' = none ∧ to' = none) ∨ (way = 10 ∧ b' = 10 ∧ bo' = none ∧ to' = none) ∨ (way = 0 ∧ b' = b ∧ bo' = bo ∧ to' = to)
def spOut : Sp := fun vs H Q _ => ∃ (r : Addr) (b n way b' : Int) (bo to bo' to' : Option Int), vs = [.ref r, .int way] ∧ RowI H r b n bo to ∧ WayR way b bo to b' bo' to' ∧ ∀ q H', Same H H' → DueT H' b' n bo' to' q → Q (.ref q) H'
theorem out_do {r : Addr} {b n way b' : Int} {bo to bo' to' : Option Int} {H : Hp} {Q : VK} {E : XK} (h : RowI H r b n bo to) (wr : WayR way b bo to b' bo' to') (k : ∀ q H', Same H H' → DueT H' b' n bo' to' q → Q (.ref q) H') : spOut [.ref r, .int way] H Q E := ⟨r, b, n, way, b', bo, to, bo', to', rfl, h, wr, k⟩
theorem ok_out {f G CB CG CL : Addr} {fd : FuncData} (F : Fun K "_law_outcome" "_law_outcome" S__law_outcome f fd) (B : Blt mg) (GT : GrTxt K mg G) (T : Errs P K mg CB CG CL) (cK : CalCK P w K mg base 3 "Grid" G 2 ["bottom", "top"] (spGbtO G CB CG)) (m2 : CalS P w K mg base 5 G "binary" (spBin G CB CG 2)) (m10 : CalS P w K mg base 5 G "decimal" (spBin G CB CG 10)) : FnOk P w K mg base (L2N.CX P w) 6 f fd ["row", "way"] spOut := by
  have S := nk__law_outcome
  obtain ⟨eB, eG, gL, mB, mG, i1, i2, i3, i4, i5, i6, nb, nw⟩ := T
  have TB := eB.T
  have TG := eG.T
  have gB := eB.gC
  have gG := eG.gC
  obtain ⟨I, gGr, xb, xp, xo, xt, _⟩ := GT
  have cl := I.cl
  refine F.okN sc__law_outcome (fun vs H Q E h => ?_) (fun cdv A outer s H vs Q E hr h => ?_)
  · obtain ⟨r, b, n, way, b', bo, to, bo', to', rfl, _⟩ := h; rfl
  · obtain ⟨r, b, n, way, b', bo, to, bo', to', rfl, hrow, wr, hQ⟩ := h
    unfold RowI at hrow
    show ZSs _ _ _ _ _ _ [some (.ref r), some (.int way), none, none] H
    refine zss_cut (fun σ1 H1 => ∃ g o, σ1 = [some (.ref r), some (.int way), some (.ref g), o] ∧ Same H H1 ∧ GrF G H1 g b' n bo' to' ∧ (2 ≤ b' ∧ b' ≤ 36 ∧ 3 ≤ n ∧ n ≤ 200 ∧ okB bo' to')) (fun nx hnx => ?_) ?_
    · refine s_try (i := 3) gL S ⟨rfl, rfl, rfl, rfl, rfl, rfl⟩ ⟨rfl, rfl⟩ rfl rfl rfl rfl rfl (by decide) fun pn xe tk hpo => ?_
      have out : GOut G CB CG b' n bo' to' H (fun g H' => nx [some (.ref r), some (.int way), some (.ref g), none] H') (fun cls d H' => XW (Cx.tr (cxN P w K mg base N__law_outcome "_law_outcome" (defScope S__law_outcome) f cdv A outer s H E) pn xe) cls d [some (.ref r), some (.int way), none, none] H') := by
        refine ⟨fun z1 z2 z3 z4 z5 g H' s g' => hnx _ _ ⟨g, _, rfl, s, g', z1, z2, z3, z4, z5⟩, fun z d H' s1 nd hd => ?_, fun z1 z2 z3 d H' s1 nd hd => ?_, fun z1 z2 z3 z4 z5 d H' s1 nd hd => ?_⟩
        all_goals refine tk _ _ _ _ ⟨true, by assumption, fun _ a na oe pn hz hf => ?_, fun h => nomatch h⟩
        all_goals show ZSs _ _ _ _ _ _ [some (.ref r), some (.int way), none, some (.ref a)] _
        all_goals refine zss_cons ?_
        all_goals fail "za"
        all_goals rename_i q nq
        · exact hQ q _ (by fail "zsm") ⟨fun _ => upd_same, fun z1 z2 => absurd ⟨z1, z2⟩ z, fun z1 z2 => absurd ⟨z1, z2⟩ z, fun z1 z2 => absurd ⟨z1, z2⟩ z⟩
        · exact hQ q _ (by fail "zsm") ⟨fun z => absurd ⟨z1, z2⟩ z, fun _ _ _ => upd_same, fun _ _ w1 w2 => absurd ⟨w1, w2⟩ z3, fun _ _ w1 w2 => absurd ⟨w1, w2⟩ z3⟩
        · exact hQ q _ (by fail "zsm") ⟨fun z => absurd ⟨z1, z2⟩ z, fun _ _ z => absurd ⟨z3, z4⟩ z, fun _ _ _ _ _ => upd_same, fun _ _ _ _ w => absurd w z5⟩
      rcases wr with ⟨rfl, rfl, rfl, rfl⟩ | ⟨rfl, rfl, rfl, rfl⟩ | ⟨rfl, rfl, rfl, rfl⟩
      · fail "z0"
        all_goals try (exfalso; omega)
        all_goals refine ⟨rfl, ?_⟩
        all_goals fail "za"
        exact ⟨n, rfl, out.imp fun g H' q => ⟨_, _, by fail "sat", by decide, q⟩⟩
      · fail "z0"
        all_goals try (exfalso; omega)
        all_goals refine ⟨rfl, ?_⟩
        all_goals fail "za"
        exact ⟨n, rfl, out.imp fun g H' q => ⟨_, _, by fail "sat", by decide, q⟩⟩
      · fail "z0"
        all_goals try (exfalso; omega)
        rename_i a d na nd nn
        exact ⟨_, _, _, _, _, rfl, GOut.gi na nd out fun H' q => ⟨rfl, _, _, by fail "sat", by decide, q⟩⟩
    rintro _ H1 ⟨g, o, rfl, s1, ⟨dx, hg⟩, z1, z2, z3, z4, z5⟩
    unfold fsG at hg
    fail "z0"
    rename_i l nl q nq
    refine hQ q _ (by fail "zsm") ⟨fun z => absurd ⟨z1, z2⟩ z, fun _ _ z => absurd ⟨z3, z4⟩ z, fun _ _ _ _ z => absurd z5 z, fun _ _ _ _ _ => ⟨l, upd_same, by fail "zh"⟩⟩
/-- what isinstance says of the built-in types and an own class -/
structure NotI (K : PySem.W.Frag) (C : Addr) : Prop where
  no : ∀ T, BT6 T → PySem.W.kitOne K (.type T) (.ref C) = some false
theorem TyB.tyx {K : PySem.W.Frag} {H : Hp} {y : V} {T : String} (h : TyB K H y T) (b : BT6 T) : TyX K H y (.type T) := by
  cases h with
  | non => exact .base .non
  | bl c => exact .base (.bl c)
  | int c => exact .base (.int c)
  | str c => exact .base (.str c)
  | byt c => simp [BT6] at b
  | lst h => exact .ofL h
  | tup h => exact .ofT h
  | dK h => simp [BT6] at b
theorem ov_scal (a b : Option Int) : scal (ov a) (ov b) = true := by cases a <;> cases b <;> rfl
theorem ow_eqS {X : Cx} {σ : L2.St} {H : Hp} {Q : VK} {x y : V} (hs : scal x y = true) (h : Q (.bl (decide (x = y))) H) : OpW X σ (compareOp .Eq) x y H Q := op_eq.w ⟨hs, h⟩
theorem ov_inj {a b : Option Int} : ov a = ov b ↔ a = b := by cases a <;> cases b <;> simp [ov]
def spGEq (K : PySem.W.Frag) (G : Addr) : Sp := fun vs H Q _ => ∃ (p : Addr) (y : V) (b n : Int) (bo to : Option Int), vs = [.ref p, y] ∧ GrF G H p b n bo to ∧ ((∃ T, BT6 T ∧ TyB K H y T ∧ Q (.bl false) H) ∨ (∃ (q : Addr) (b2 n2 : Int) (bo2 to2 : Option Int), y = .ref q ∧ GrF G H q b2 n2 bo2 to2 ∧ Q (.bl (decide (b = b2 ∧ n = n2 ∧ bo = bo2 ∧ to = to2))) H))
theorem ok_geq {f G : Addr} {fd : FuncData} (F : Fun K "__eq__" "Grid.__eq__" S_Grid___eq__ f fd) (B : Blt mg) (T : GrTxt K mg G) (N : NotI K G) : FnOk P w K mg base (L2N.CX P w) 1 f fd ["self", "other"] (spGEq K G) := by
  have S := nk_Grid___eq__
  obtain ⟨I, gGr, xb, xp, xo, xt, _⟩ := T
  have cl := I.cl
  refine F.okN sc_Grid___eq__ (fun vs H Q E h => ?_) (fun cdv A outer s H vs Q E hr h => ?_)
  · obtain ⟨p, y, b, n, bo, to, rfl, _⟩ := h; rfl
  · obtain ⟨p, y, b, n, bo, to, rfl, ⟨dx, hp⟩, ⟨T, hT, hb, hQ⟩ | ⟨q, b2, n2, bo2, to2, rfl, ⟨dy, hq⟩, hQ⟩⟩ := h
    · have tx := TyB.tyx hb hT
      have no := N.no T hT
      show ZSs _ _ _ _ _ _ [some (.ref p), some y] H
      refine zss_cons ?_
      refine zs_if ?_
      fail "za"
      exact hQ
    · unfold fsG at hp hq
      show ZSs _ _ _ _ _ _ [some (.ref p), some (.ref q)] H
      fail "z0"
      · rwa [decide_eq_false (fun z => by have := z.1; contradiction)] at hQ
      · rwa [decide_eq_false (fun z => by have := z.2.1; contradiction)] at hQ
      · refine ow_eqS (ov_scal _ _) ?_
        fail "za"
        · refine ow_eqS (ov_scal _ _) ?_
          rename_i e1 e2 e3
          rw [show decide (ov to = ov to2) = decide (b = b2 ∧ n = n2 ∧ bo = bo2 ∧ to = to2) from decide_eq_decide.mpr (by rw [ov_inj]; have := ov_inj.mp e3; exact ⟨fun h => ⟨by omega, by omega, this, h⟩, fun h => h.2.2.2⟩)]
          exact hQ
        · rename_i e1 e2 e3
          rwa [decide_eq_false (fun z => e3 (by rw [z.2.2.1]))] at hQ
def spSgnM : Sp := fun vs H Q _ => ∃ (s : Addr) (m : Int), vs = [.ref s, .int m] ∧ Src H s ∧ 0 ≤ m ∧ m ≤ 100000 ∧ ∀ v : Int, Q (.int v) H
theorem sgnM_do {s : Addr} {m : Int} {H : Hp} {Q : VK} {E : XK} (h : Src H s) (m0 : 0 ≤ m) (m9 : m ≤ 100000) (k : ∀ v : Int, Q (.int v) H) : spSgnM [.ref s, .int m] H Q E := ⟨s, m, rfl, h, m0, m9, k⟩
theorem ok_sgnM {f : Addr} {fd : FuncData} (F : Fun K "_law_signed" "_law_signed" S__law_signed f fd) (cD : Cal P w K mg base 1 "_law_draw" spDraw) : FnOk P w K mg base (L2N.CX P w) 2 f fd ["source", "most"] spSgnM := by
  have S := nk__law_signed
  refine F.okN sc__law_signed (fun vs H Q E h => ?_) (fun cdv A outer s H vs Q E hr h => ?_)
  · obtain ⟨p, m, rfl, _⟩ := h; rfl
  · obtain ⟨p, m, rfl, hs, m0, m9, hQ⟩ := h
    show ZSs _ _ _ _ _ _ [some (.ref p), some (.int m), none] H
    fail "z0"
    exact hQ _
def spBdr : Sp := fun vs H Q _ => ∃ (s : Addr), vs = [.ref s] ∧ Src H s ∧ ∀ o H', Same H H' → Q (ov o) H'
theorem bdr_do {s : Addr} {H : Hp} {Q : VK} {E : XK} (h : Src H s) (k : ∀ o H', Same H H' → Q (ov o) H') : spBdr [.ref s] H Q E := ⟨s, rfl, h, k⟩
theorem ok_bdr {f : Addr} {fd : FuncData} (F : Fun K "_law_border" "_law_border" S__law_border f fd) (cD : Cal P w K mg base 1 "_law_draw" spDraw) (cS : Cal P w K mg base 2 "_law_signed" spSgnM) : FnOk P w K mg base (L2N.CX P w) 3 f fd ["source"] spBdr := by
  have S := nk__law_border
  refine F.okN sc__law_border (fun vs H Q E h => ?_) (fun cdv A outer s H vs Q E hr h => ?_)
  · obtain ⟨p, rfl, _⟩ := h; rfl
  · obtain ⟨p, rfl, hs, hQ⟩ := h
    show ZSs _ _ _ _ _ _ [some (.ref p)] H
    fail "z0"
    · exact hQ none _ (.refl _)
    · rename_i v v0 v9
      refine xw_lstP (P := fun v => ∃ k, v = .int k ∧ 0 ≤ k ∧ k ≤ 100000) (SqL.of (xs := [.int 5, .int 3000]) upd_same) v0 v9 (All.cons ⟨_, rfl, by decide, by decide⟩ (All.cons ⟨_, rfl, by decide, by decide⟩ All.nil)) ?_
      rintro _ ⟨k, rfl, k0, k9⟩
      fail "za"
      refine sgnM_do (by fail "zsrc") k0 k9 (fun v => ?_)
      exact hQ (some v) _ (by fail "zsm")
def spAny : Sp := fun vs H Q _ => ∃ (s : Addr), vs = [.ref s] ∧ Src H s ∧ ∀ r b n bo to H', Same H H' → NoA H r → RowI H' r b n bo to → Q (.ref r) H'
theorem any_do {s : Addr} {H : Hp} {Q : VK} {E : XK} (h : Src H s) (k : ∀ r b n bo to H', Same H H' → NoA H r → RowI H' r b n bo to → Q (.ref r) H') : spAny [.ref s] H Q E := ⟨s, rfl, h, k⟩
theorem ok_any {f : Addr} {fd : FuncData} (F : Fun K "_law_any" "_law_any" S__law_any f fd) (cD : Cal P w K mg base 1 "_law_draw" spDraw) (cB : Cal P w K mg base 2 "_law_base" spBase) (cS : Cal P w K mg base 3 "_law_border" spBdr) : FnOk P w K mg base (L2N.CX P w) 4 f fd ["source"] spAny := by
  have S := nk__law_any
  refine F.okN sc__law_any (fun vs H Q E h => ?_) (fun cdv A outer s H vs Q E hr h => ?_)
  · obtain ⟨p, rfl, _⟩ := h; rfl
  · obtain ⟨p, rfl, hs, hQ⟩ := h
    show ZSs _ _ _ _ _ _ [some (.ref p), none, none] H
    refine zss_cut (fun σ1 H1 => ∃ (b : Int) (o : Option V), σ1 = [some (.ref p), some (.int b), o] ∧ Same H H1) (fun nx hnx => ?_) ?_
    · fail "za"
      exact hnx _ _ ⟨_, _, rfl, .refl _⟩
    rintro _ H1 ⟨b, o, rfl, s1⟩
    have hs1 := hs.same s1
    refine zss_cut (fun σ1 H2 => ∃ (b : Int) (o : Option V), σ1 = [some (.ref p), some (.int b), o] ∧ Same H H2) (fun nx hnx => ?_) ?_
    · fail "za"
      · exact hnx _ _ ⟨_, _, rfl, by fail "zsm"⟩
      · exact hnx _ _ ⟨_, _, rfl, by fail "zsm"⟩
    rintro _ H2 ⟨b, o, rfl, s2⟩
    have hs2 := hs.same s2
    refine zss_cut (fun σ1 H3 => ∃ (n : Int), σ1 = [some (.ref p), some (.int b), some (.int n)] ∧ Same H H3) (fun nx hnx => ?_) ?_
    · fail "za"
      refine xw_lstP (P := fun v => ∃ k, v = .int k) (SqL.of upd_same) (by omega) (show _ < (3 : Int) by omega) (All.cons ⟨_, rfl⟩ (All.cons ⟨_, rfl⟩ (All.cons ⟨_, rfl⟩ All.nil))) ?_
      rintro _ ⟨k, rfl⟩
      fail "za"
      exact hnx _ _ ⟨_, rfl, by fail "zsm"⟩
    rintro _ H3 ⟨n, rfl, s3⟩
    have hs3 := hs.same s3
    fail "z0"
    refine bdr_do hs3 (fun bo H4 s4 => ?_)
    fail "za"
    refine bdr_do (hs3.same s4) (fun to H5 s5 => ?_)
    fail "za"
    rename_i r nr
    exact hQ r b n bo to _ (by fail "zsm") ⟨NoA.free (by fail "zsm") nr⟩ upd_same
def ChR (H : Hp) (b : Int) (n : Nat) (bo to : Option Int) (v : V) : Prop := ∃ (r : Addr) (b2 : Int) (n2 : Nat) (bo2 to2 : Option Int), v = .ref r ∧ RowG H r b2 n2 bo2 to2 ∧ 2 ≤ b2 ∧ b2 ≤ 36 ∧ 3 ≤ n2 ∧ n2 ≤ 200 ∧ okB bo2 to2 ∧ ¬ (b = b2 ∧ n = n2 ∧ bo = bo2 ∧ to = to2)
theorem ChR.same {H H' : Hp} {b : Int} {n : Nat} {bo to : Option Int} {v : V} (h : ChR H b n bo to v) (s : Same H H') : ChR H' b n bo to v := by
  obtain ⟨r, b2, n2, bo2, to2, rfl, h1, h2⟩ := h
  exact ⟨r, b2, n2, bo2, to2, rfl, h1.same s, h2⟩
def spChg : Sp := fun vs H Q _ => ∃ (s r : Addr) (b : Int) (n : Nat) (bo to : Option Int), vs = [.ref s, .ref r] ∧ Src H s ∧ RowG H r b n bo to ∧ 2 ≤ b ∧ b ≤ 36 ∧ 3 ≤ n ∧ n ≤ 40 ∧ okB bo to ∧ ∀ l xs H', Same H H' → NoA H l → H' l = some (.lst xs) → (∀ v ∈ xs, ChR H' b n bo to v) → Q (.ref l) H'
theorem chg_do {s r : Addr} {b : Int} {n : Nat} {bo to : Option Int} {H : Hp} {Q : VK} {E : XK} (h : Src H s) (hr : RowG H r b n bo to) (b1 : 2 ≤ b) (b9 : b ≤ 36) (n1 : 3 ≤ n) (n9 : n ≤ 40) (ok : okB bo to) (k : ∀ l xs H', Same H H' → NoA H l → H' l = some (.lst xs) → (∀ v ∈ xs, ChR H' b n bo to v) → Q (.ref l) H') : spChg [.ref s, .ref r] H Q E := ⟨s, r, b, n, bo, to, rfl, h, hr, b1, b9, n1, n9, ok, k⟩
theorem ok_chg {f : Addr} {fd : FuncData} (F : Fun K "_law_changed" "_law_changed" S__law_changed f fd) (B : Blt mg) (cD : Cal P w K mg base 1 "_law_draw" spDraw) : FnOk P w K mg base (L2N.CX P w) 2 f fd ["source", "row"] spChg := by
  have S := nk__law_changed
  refine F.okN sc__law_changed (fun vs H Q E h => ?_) (fun cdv A outer s0 H vs Q E hr h => ?_)
  · obtain ⟨s, r, b, n, bo, to, rfl, _⟩ := h; rfl
  · obtain ⟨s, r, b, n, bo, to, rfl, hs, hrow, b1, b9, n1, n9, ok, hQ⟩ := h
    unfold RowG at hrow
    show ZSs _ _ _ _ _ _ [some (.ref s), some (.ref r), none, none, none, none] H
    refine zss_cut (fun σ1 H1 => ∃ (b2 : Int), σ1 = [some (.ref s), some (.ref r), some (.int b2), none, none, none] ∧ H = H1 ∧ 2 ≤ b2 ∧ b2 ≤ 36 ∧ b ≠ b2) (fun nx hnx => ?_) ?_
    · fail "za"
      exact hnx _ _ ⟨_, rfl, rfl, by omega, by omega, by omega⟩
    rintro _ _ ⟨b2, rfl, rfl, c1, c9, cn⟩
    refine zss_cut (fun σ1 H1 => σ1 = [some (.ref s), some (.ref r), some (.int b2), some .non, none, none] ∧ H = H1) (fun nx hnx => ?_) ?_
    · fail "za"
      exact hnx _ _ ⟨rfl, rfl⟩
    rintro _ _ ⟨rfl, rfl⟩
    refine zss_cut (fun σ1 H1 => ∃ un : Option Int, σ1 = [some (.ref s), some (.ref r), some (.int b2), some (ov un), none, none] ∧ H = H1 ∧ okB un to ∧ bo ≠ un) (fun nx hnx => ?_) ?_
    · rcases bo with _ | x <;> rcases to with _ | y <;> simp only [ov] at *
      all_goals fail "za"
      · exact hnx _ _ ⟨some _, rfl, rfl, trivial, by simp⟩
      · exact hnx _ _ ⟨some _, rfl, rfl, show _ ≤ _ by omega, by simp⟩
      · exact hnx _ _ ⟨some _, rfl, rfl, trivial, by simp; omega⟩
      · exact hnx _ _ ⟨none, rfl, rfl, trivial, by simp⟩
      · exact hnx _ _ ⟨some _, rfl, rfl, (show _ ≤ _ by have : x ≤ y := ok; omega), by simp; omega⟩
      · exact hnx _ _ ⟨none, rfl, rfl, trivial, by simp⟩
    rintro _ _ ⟨un, rfl, rfl, uo, ux⟩
    refine zss_cut (fun σ1 H1 => σ1 = [some (.ref s), some (.ref r), some (.int b2), some (ov un), some .non, none] ∧ H = H1) (fun nx hnx => ?_) ?_
    · fail "za"
      exact hnx _ _ ⟨rfl, rfl⟩
    rintro _ _ ⟨rfl, rfl⟩
    refine zss_cut (fun σ1 H1 => ∃ ab : Option Int, σ1 = [some (.ref s), some (.ref r), some (.int b2), some (ov un), some (ov ab), none] ∧ H = H1 ∧ okB bo ab ∧ to ≠ ab) (fun nx hnx => ?_) ?_
    · clear uo ux
      rcases bo with _ | x <;> rcases to with _ | y <;> simp only [ov] at *
      all_goals fail "za"
      · exact hnx _ _ ⟨some _, rfl, rfl, trivial, by simp⟩
      · exact hnx _ _ ⟨some _, rfl, rfl, trivial, by simp; omega⟩
      · exact hnx _ _ ⟨none, rfl, rfl, trivial, by simp⟩
      · exact hnx _ _ ⟨some _, rfl, rfl, show _ ≤ _ by omega, by simp⟩
      · exact hnx _ _ ⟨some _, rfl, rfl, (show _ ≤ _ by have : x ≤ y := ok; omega), by simp; omega⟩
      · exact hnx _ _ ⟨none, rfl, rfl, trivial, by simp⟩
    rintro _ _ ⟨ab, rfl, rfl, ao, ax⟩
    fail "z0"
    rename_i r1 n1' r2 n2' l1 nl1 r3 n3' r4 n4' l2 nl2 l3 nl3
    have h1 : RowG (upd (upd (upd (upd (upd (upd (upd H r1 (.lst [.int b2, .int n, ov bo, ov to])) r2 (.lst [.int b, .int (n + 1), ov bo, ov to])) l1 (.lst [.ref r1, .ref r2])) r3 (.lst [.int b, .int n, ov un, ov to])) r4 (.lst [.int b, .int n, ov bo, ov ab])) l2 (.lst [.ref r3, .ref r4])) l3 (.lst ([.ref r1, .ref r2] ++ [.ref r3, .ref r4]))) r1 b2 n bo to := by unfold RowG; fail "zh"
    have h2 : RowG (upd (upd (upd (upd (upd (upd (upd H r1 (.lst [.int b2, .int n, ov bo, ov to])) r2 (.lst [.int b, .int (n + 1), ov bo, ov to])) l1 (.lst [.ref r1, .ref r2])) r3 (.lst [.int b, .int n, ov un, ov to])) r4 (.lst [.int b, .int n, ov bo, ov ab])) l2 (.lst [.ref r3, .ref r4])) l3 (.lst ([.ref r1, .ref r2] ++ [.ref r3, .ref r4]))) r2 b (n + 1) bo to := by unfold RowG; rw [show (((n + 1 : Nat) : Int)) = (n : Int) + 1 by omega]; fail "zh"
    have h3 : RowG (upd (upd (upd (upd (upd (upd (upd H r1 (.lst [.int b2, .int n, ov bo, ov to])) r2 (.lst [.int b, .int (n + 1), ov bo, ov to])) l1 (.lst [.ref r1, .ref r2])) r3 (.lst [.int b, .int n, ov un, ov to])) r4 (.lst [.int b, .int n, ov bo, ov ab])) l2 (.lst [.ref r3, .ref r4])) l3 (.lst ([.ref r1, .ref r2] ++ [.ref r3, .ref r4]))) r3 b n un to := by unfold RowG; fail "zh"
    have h4 : RowG (upd (upd (upd (upd (upd (upd (upd H r1 (.lst [.int b2, .int n, ov bo, ov to])) r2 (.lst [.int b, .int (n + 1), ov bo, ov to])) l1 (.lst [.ref r1, .ref r2])) r3 (.lst [.int b, .int n, ov un, ov to])) r4 (.lst [.int b, .int n, ov bo, ov ab])) l2 (.lst [.ref r3, .ref r4])) l3 (.lst ([.ref r1, .ref r2] ++ [.ref r3, .ref r4]))) r4 b n bo ab := by unfold RowG; fail "zh"
    refine hQ l3 _ _ (by fail "zsm") ⟨NoA.free (by fail "zsm") nl3⟩ upd_same (fun v hv => ?_)
    simp only [List.cons_append, List.nil_append, List.mem_cons, List.not_mem_nil, or_false] at hv
    rcases hv with rfl | rfl | rfl | rfl
    · exact ⟨r1, _, _, _, _, rfl, h1, c1, c9, n1, by omega, ok, fun z => cn z.1⟩
    · exact ⟨r2, _, _, _, _, rfl, h2, b1, b9, by omega, by omega, ok, fun z => by have := z.2.1; omega⟩
    · exact ⟨r3, _, _, _, _, rfl, h3, b1, b9, n1, by omega, uo, fun z => ux z.2.2.1⟩
    · exact ⟨r4, _, _, _, _, rfl, h4, b1, b9, n1, by omega, ao, fun z => ax z.2.2.2⟩
def spEqs : Sp := fun vs H Q _ => ∃ (s : Addr), vs = [.ref s] ∧ Src H s ∧ ∀ H', Same H H' → Q (.bl true) H'
theorem eqs_do {s : Addr} {H : Hp} {Q : VK} {E : XK} (h : Src H s) (k : ∀ H', Same H H' → Q (.bl true) H') : spEqs [.ref s] H Q E := ⟨s, rfl, h, k⟩
theorem geq_t {G p q : Addr} {b n : Int} {bo to : Option Int} {H : Hp} {Q : VK} {E : XK} (h1 : GrF G H p b n bo to) (h2 : GrF G H q b n bo to) (k : Q (.bl true) H) : spGEq K G [.ref p, .ref q] H Q E := ⟨p, _, b, n, bo, to, rfl, h1, .inr ⟨q, b, n, bo, to, rfl, h2, by rw [decide_eq_true ⟨rfl, rfl, rfl, rfl⟩]; exact k⟩⟩
theorem geq_f {G p q : Addr} {b n b2 n2 : Int} {bo to bo2 to2 : Option Int} {H : Hp} {Q : VK} {E : XK} (h1 : GrF G H p b n bo to) (h2 : GrF G H q b2 n2 bo2 to2) (ne : ¬ (b = b2 ∧ n = n2 ∧ bo = bo2 ∧ to = to2)) (k : Q (.bl false) H) : spGEq K G [.ref p, .ref q] H Q E := ⟨p, _, b, n, bo, to, rfl, h1, .inr ⟨q, b2, n2, bo2, to2, rfl, h2, by rw [decide_eq_false ne]; exact k⟩⟩
theorem geq_b {G p : Addr} {y : V} {T : String} {b n : Int} {bo to : Option Int} {H : Hp} {Q : VK} {E : XK} (h1 : GrF G H p b n bo to) (hT : BT6 T) (hb : TyB K H y T) (k : Q (.bl false) H) : spGEq K G [.ref p, y] H Q E := ⟨p, y, b, n, bo, to, rfl, h1, .inl ⟨T, hT, hb, k⟩⟩
theorem ok_eqs {f G : Addr} {fd : FuncData} (F : Fun K "_law_equals" "_law_equals" S__law_equals f fd) (T : GrTxt K mg G) (NB : NotB K G) (hne : PySem.W.findIn K (.ref G) "__ne__" = some (some (.builtin "object.__ne__"))) (cG : Cal P w K mg base 3 "_law_grid" spGridL) (cM : Cal P w K mg base 5 "_law_grid_made" (spGMade G)) (cC : Cal P w K mg base 2 "_law_changed" spChg) (oE : CalM P w K mg base 1 G "__eq__" (spGEq K G)) (cE : Cal P w K mg base 2 "_law_equal" (spEq K 1)) : FnOk P w K mg base (L2N.CX P w) 6 f fd ["source"] spEqs := by
  have S := nk__law_equals
  obtain ⟨I, gGr, xb, xp, xo, xt, _⟩ := T
  have cl := I.cl
  have hmo := I.hm
  refine F.okN sc__law_equals (fun vs H Q E h => ?_) (fun cdv A outer s0 H vs Q E hr h => ?_)
  · obtain ⟨s, rfl, _⟩ := h; rfl
  · obtain ⟨s, rfl, hs, hQ⟩ := h
    show ZSs _ _ _ _ _ _ [some (.ref s), none, none, none, none, none, none] H
    fail "z0"
    refine gridl_do hs (fun r b n bo to H1 s1 nr hrow b1 b9 n1 n9 dr => ?_)
    fail "za"
    refine gmade_do hrow b1 b9 n1 (by omega) dr.ok (fun g H2 s2 ng gd => ?_)
    fail "za"
    refine gmade_do (hrow.same s2) b1 b9 n1 (by omega) dr.ok (fun t H3 s3 nt td => ?_)
    have g3 := (gd.same s3).f
    have t3 := td.f
    obtain ⟨dg, hg⟩ := id g3
    obtain ⟨dt, ht⟩ := id t3
    fail "za"
    refine geq_t g3 t3 ?_
    fail "za"
    refine geq_t t3 g3 ?_
    fail "za"
    refine geq_t g3 g3 ?_
    fail "za"
    refine geq_t g3 t3 ?_
    fail "za"
    rename_i l1 nl1 l2 nl2
    refine equal_do (.lstS (SqL.of (by fail "zh")) (SqL.of (by fail "zh")) (Nat.le_of_ble_eq_true rfl) (by fail "zsc")) ?_
    fail "za"
    have s13 : Same H1 (upd (upd H3 l1 (.lst [.bl true, .bl true, .bl true, .bl !true])) l2 (.lst [.bl true, .bl true, .bl true, .bl false])) := by fail "zsm"
    have g4 : GrF G (upd (upd H3 l1 (.lst [.bl true, .bl true, .bl true, .bl !true])) l2 (.lst [.bl true, .bl true, .bl true, .bl false])) g b n bo to := g3.same (by fail "zsm")
    generalize upd (upd H3 l1 (.lst [.bl true, .bl true, .bl true, .bl !true])) l2 (.lst [.bl true, .bl true, .bl true, .bl false]) = H4 at *
    have hs4 := (hs.same s1).same s13
    have hrow4 := hrow.same s13
    refine zs_cut (fun σ' H' => ∃ o1 o2 o3, σ' = [some (.ref s), some (.ref r), some (.ref g), some (.ref t), o1, o2, o3] ∧ Same H4 H') (fun nx hnx => ?_) ?_
    · refine zs_forL pass_def rfl ?_
      fail "za"
      refine chg_do hs4 hrow4 b1 b9 n1 n9 dr.ok (fun l xs H5 s5 nl hl hxs => ?_)
      fail "za"
      refine ⟨l, xs, rfl, SqL.of hl, fun i σ H' => ∃ o1 o2 o3, σ = [some (.ref s), some (.ref r), some (.ref g), some (.ref t), o1, o2, o3] ∧ Same H5 H', ⟨_, _, _, rfl, .refl _⟩, ?_, ?_, ?_⟩
      · rintro i σ H' _ ⟨o1, o2, o3, rfl, s6⟩; exact SqL.of (s6 _ _ hl)
      · rintro i y σ H6 hy ⟨o1, o2, o3, rfl, s6⟩
        obtain ⟨r2, b2, n2, bo2, to2, rfl, hrow2, c1, c9, m1, m9, ok2, ne⟩ := (hxs y (List.mem_of_getElem? hy)).same s6
        fail "za"
        refine gmade_do hrow2 c1 c9 m1 m9 ok2 (fun u H7 s7 nu ud => ?_)
        have g7 := g4.same ((s5.trans s6).trans s7)
        have u7 := ud.f
        obtain ⟨_, hg7⟩ := id g7
        obtain ⟨_, hu7⟩ := id u7
        have ne1 : ¬ (b = b2 ∧ (n : Int) = n2 ∧ bo = bo2 ∧ to = to2) := fun z => ne ⟨z.1, by omega, z.2.2⟩
        have ne2 : ¬ (b2 = b ∧ (n2 : Int) = n ∧ bo2 = bo ∧ to2 = to) := fun z => ne ⟨z.1.symm, by omega, z.2.2.1.symm, z.2.2.2.symm⟩
        fail "za"
        refine geq_f g7 u7 ne1 ?_
        fail "za"
        refine geq_f u7 g7 ne2 ?_
        fail "za"
        refine geq_f g7 u7 ne1 ?_
        fail "za"
        refine equal_do (.lstS (SqL.of (by fail "zh")) (SqL.of (by fail "zh")) (Nat.le_of_ble_eq_true rfl) (by fail "zsc")) ?_
        fail "za"
        exact ⟨_, _, _, rfl, by fail "zsm"⟩
      · rintro σ H' ⟨o1, o2, o3, rfl, s6⟩
        exact hnx _ _ ⟨_, _, _, rfl, s5.trans s6⟩
    rintro _ H5 ⟨o1, o2, o3, rfl, s5⟩
    have g5 := g4.same s5
    have hrow5 := hrow4.same s5
    have hrow5' := hrow5
    unfold RowG at hrow5'
    obtain ⟨_, hg5⟩ := id g5
    refine zss_cut (fun σ' H' => ∃ o1 o2 o3, σ' = [some (.ref s), some (.ref r), some (.ref g), some (.ref t), o1, o2, o3] ∧ Same H5 H') (fun nx hnx => ?_) ?_
    · refine zs_forL pass_def rfl ?_
      fail "za"
      rename_i tp ntp l nl
      have s6 : Same H5 (upd (upd H5 tp (.tup [.int b, .int n, ov bo, ov to])) l (.lst [.non, .int b, .str "", .ref tp, .ref r])) := by fail "zsm"
      have hl6 : (upd (upd H5 tp (.tup [.int b, .int n, ov bo, ov to])) l (.lst [.non, .int b, .str "", .ref tp, .ref r])) l = some (.lst [.non, .int b, .str "", .ref tp, .ref r]) := upd_same
      have ht6 : (upd (upd H5 tp (.tup [.int b, .int n, ov bo, ov to])) l (.lst [.non, .int b, .str "", .ref tp, .ref r])) tp = some (.tup [.int b, .int n, ov bo, ov to]) := by fail "zh"
      generalize upd (upd H5 tp (.tup [.int b, .int n, ov bo, ov to])) l (.lst [.non, .int b, .str "", .ref tp, .ref r]) = H6 at *
      refine ⟨l, _, rfl, SqL.of hl6, fun i σ H' => ∃ o1 o2 o3, σ = [some (.ref s), some (.ref r), some (.ref g), some (.ref t), o1, o2, o3] ∧ Same H6 H', ⟨_, _, _, rfl, .refl _⟩, ?_, ?_, ?_⟩
      · rintro i σ H' _ ⟨o1, o2, o3, rfl, s7⟩; exact SqL.of (s7 _ _ hl6)
      · rintro i y σ H7 hy ⟨o1, o2, o3, rfl, s7⟩
        have g7 := (g5.same s6).same s7
        obtain ⟨_, hg7⟩ := id g7
        obtain ⟨T, hT, tb⟩ : ∃ T, BT6 T ∧ TyB K H7 y T := by
          match i, hy with
          | 0, hy => simp at hy; subst hy; exact ⟨_, by fail "zb6", .non⟩
          | 1, hy => simp at hy; subst hy; exact ⟨_, by fail "zb6", .int _⟩
          | 2, hy => simp at hy; subst hy; exact ⟨_, by fail "zb6", .str _⟩
          | 3, hy => simp at hy; subst hy; exact ⟨_, by fail "zb6", .tup (SqT.of (s7 _ _ ht6))⟩
          | 4, hy => simp at hy; subst hy; exact ⟨_, by fail "zb6", .lst (SqL.of (s7 _ _ (s6 _ _ hrow5')))⟩
          | i + 5, hy => simp at hy
        fail "za"
        refine geq_b g7 hT tb ?_
        fail "za"
        refine geq_b g7 hT tb ?_
        fail "za"
        refine geq_b g7 hT tb ?_
        fail "za"
        refine equal_do (.lstS (SqL.of (by fail "zh")) (SqL.of (by fail "zh")) (Nat.le_of_ble_eq_true rfl) (by fail "zsc")) ?_
        fail "za"
        exact ⟨_, _, _, rfl, by fail "zsm"⟩
      · rintro σ H' ⟨o1, o2, o3, rfl, s7⟩
        exact hnx _ _ ⟨_, _, _, rfl, s6.trans s7⟩
    rintro _ H6 ⟨o1, o2, o3, rfl, s6⟩
    have hrow6 := hrow5.same s6
    unfold RowG at hrow6
    obtain ⟨_, hg6⟩ := g5.same s6
    unfold fsG at hg6
    fail "z0"
    rename_i l nl
    refine equal_do (.lstS (SqL.of upd_same) (SqL.of (by fail "zh")) (Nat.le_of_ble_eq_true rfl) (Sc.cons (.int _) (Sc.cons (.int _) (Sc.cons (ov_sc _) (Sc.cons (ov_sc _) Sc.nil))))) ?_
    exact hQ _ (by fail "zsm")
def RowP (H : Hp) (v : V) : Prop := ∃ (r : Addr) (b n : Int) (bo to : Option Int), v = .ref r ∧ RowI H r b n bo to
theorem RowP.same {H H' : Hp} {v : V} (h : RowP H v) (s : Same H H') : RowP H' v := by
  obtain ⟨r, b, n, bo, to, rfl, h1⟩ := h
  exact ⟨r, b, n, bo, to, rfl, s _ _ h1⟩
theorem RowP.up {H : Hp} {D : Addr} {v : V} (h : RowP H v) (hD : v ≠ .ref D) {o : HO} : RowP (upd H D o) v := by
  obtain ⟨r, b, n, bo, to, rfl, h1⟩ := h
  exact ⟨r, b, n, bo, to, rfl, by unfold RowI at *; rw [upd_ne (fun z => hD (by rw [z]))]; exact h1⟩
section
local macro_rules | `(tactic| fail "zrp") => `(tactic| first
  | exact ⟨_, _, _, none, none, rfl, (by fail "zh")⟩ | exact ⟨_, _, _, none, some _, rfl, (by fail "zh")⟩ | exact ⟨_, _, _, some _, none, rfl, (by fail "zh")⟩ | exact ⟨_, _, _, some _, some _, rfl, (by fail "zh")⟩)
theorem ok_law {f G : Addr} {fd : FuncData} (F : Fun K "law" "law" S_law f fd) (B : Blt mg) (T : GrTxt K mg G) (cS : Cal P w K mg base 1 "_law_source" (spSrc K)) (cD : Cal P w K mg base 1 "_law_draw" spDraw) (cB : Cal P w K mg base 2 "_law_base" spBase) (cSg : Cal P w K mg base 2 "_law_signed" spSgnM) (cA : Cal P w K mg base 4 "_law_any" spAny) (cO : Cal P w K mg base 6 "_law_outcome" spOut) (cDu : Cal P w K mg base 1 "_law_due" spDueL) (cEs : Cal P w K mg base 6 "_law_equals" spEqs) (cE : Cal P w K mg base 3 "_law_equal" (spEq K 2)) : FnOk P w K mg base (L2N.CX P w) 7 f fd ["script"] (spLaw K) := by
  have S := nk_law
  obtain ⟨I, gGr, xb, xp, xo, xt, mc, rd, ⟨u1, v1⟩, u2, v2⟩ := T
  have cl := I.cl
  refine F.okN sc_law (fun vs H Q E h => ?_) (fun cdv A outer s H vs Q E hr h => ?_)
  · obtain ⟨a, ns, rfl, _⟩ := h; rfl
  · obtain ⟨a, ns, rfl, hs, hl, hQ⟩ := h
    show ZSs _ _ _ _ _ _ [some (.ref a), none, none, none, none, none, none, none, none, none, none] H
    refine zss_cut (fun σ1 H1 => ∃ (src : Addr), σ1 = [some (.ref a), some (.ref src), none, none, none, none, none, none, none, none, none] ∧ Src H1 src) (fun nx hnx => ?_) ?_
    · fail "za"
      refine src_do hs (by omega) (fun src H1 nsrc s1 hsrc => ?_)
      fail "za"
      exact hnx _ _ ⟨_, rfl, hsrc⟩
    rintro _ H1 ⟨src, rfl, hsrc⟩
    refine zss_cut (fun σ1 H1 => ∃ (good : Int), σ1 = [some (.ref a), some (.ref src), some (.int good), none, none, none, none, none, none, none, none] ∧ Src H1 src) (fun nx hnx => ?_) ?_
    · fail "za"
      exact hnx _ _ ⟨_, rfl, hsrc.same (by assumption)⟩
    rintro _ H2 ⟨good, rfl, hs2⟩
    refine zss_cut (fun σ1 H1 => ∃ (many : Int), σ1 = [some (.ref a), some (.ref src), some (.int good), some (.int many), none, none, none, none, none, none, none] ∧ Src H1 src) (fun nx hnx => ?_) ?_
    · fail "za"
      exact hnx _ _ ⟨_, rfl, hs2⟩
    rintro _ H3 ⟨many, rfl, hs3⟩
    refine zss_cut (fun σ1 H1 => ∃ (side : Int), σ1 = [some (.ref a), some (.ref src), some (.int good), some (.int many), some (.int side), none, none, none, none, none, none] ∧ Src H1 src) (fun nx hnx => ?_) ?_
    · fail "za"
      refine sgnM_do hs3 (by omega) (by omega) (fun v => ?_)
      fail "za"
      exact hnx _ _ ⟨_, rfl, hs3⟩
    rintro _ H4 ⟨side, rfl, hs4⟩
    refine zss_cut (fun σ1 H1 => ∃ (bad : Int), σ1 = [some (.ref a), some (.ref src), some (.int good), some (.int many), some (.int side), some (.int bad), none, none, none, none, none] ∧ Src H1 src) (fun nx hnx => ?_) ?_
    · fail "za"
      refine xw_lstP (P := fun v => ∃ k, v = .int k) (SqL.of upd_same) (by omega) (show _ < (2 : Int) by omega) (All.cons ⟨_, rfl⟩ (All.cons ⟨_, rfl⟩ All.nil)) ?_
      rintro _ ⟨k, rfl⟩
      fail "za"
      exact hnx _ _ ⟨_, rfl, by fail "zsrc"⟩
    rintro _ H5 ⟨bad, rfl, hs5⟩
    refine zss_cut (fun σ1 H1 => ∃ (thin : Int), σ1 = [some (.ref a), some (.ref src), some (.int good), some (.int many), some (.int side), some (.int bad), some (.int thin), none, none, none, none] ∧ Src H1 src) (fun nx hnx => ?_) ?_
    · fail "za"
      refine xw_lstP (P := fun v => ∃ k, v = .int k) (SqL.of upd_same) (by omega) (show _ < (2 : Int) by omega) (All.cons ⟨_, rfl⟩ (All.cons ⟨_, rfl⟩ All.nil)) ?_
      rintro _ ⟨k, rfl⟩
      fail "za"
      exact hnx _ _ ⟨_, rfl, by fail "zsrc"⟩
    rintro _ H6 ⟨thin, rfl, hs6⟩
    obtain ⟨Iv, hIv⟩ : ∃ Iv : Nat → L2.St → Hp → Prop, Iv = fun m σ1 H1 => ∃ (l : Addr) (xs : List V), σ1 = [some (.ref a), some (.ref src), some (.int good), some (.int many), some (.int side), some (.int bad), some (.int thin), some (.ref l), none, none, none] ∧ Src H1 src ∧ H1 l = some (.lst xs) ∧ xs.length ≤ m ∧ ∀ v ∈ xs, RowP H1 v := ⟨_, rfl⟩
    refine zss_cut (Iv 4) (fun nx hnx => ?_) ?_
    · fail "za"
      refine hnx _ _ ?_
      rw [hIv]
      refine ⟨_, _, rfl, by fail "zsrc", upd_same, Nat.le_of_ble_eq_true rfl, fun v hv => ?_⟩
      simp only [List.mem_cons, List.not_mem_nil, or_false] at hv
      rcases hv with rfl | rfl | rfl | rfl
      all_goals fail "zrp"
    intro σ1 H7 h1
    rw [hIv] at h1
    obtain ⟨l7, xs, rfl, hs7, hl7, z7, hx7⟩ := h1
    refine zss_cut (Iv 8) (fun nx hnx => ?_) ?_
    · fail "za"
      · simp only [List.length_cons, List.length_nil]; rw [sizeLine_eq]; omega
      rename_i lx nlx
      refine hnx _ _ ?_
      rw [hIv]
      refine ⟨_, _, rfl, by fail "zsrc", upd_same, by rw [List.length_append]; simp only [List.length_cons, List.length_nil]; omega, fun v hv => ?_⟩
      rcases List.mem_append.mp hv with hv | hv
      · exact (hx7 v hv).same (by fail "zsm")
      simp only [List.mem_cons, List.not_mem_nil, or_false] at hv
      rcases hv with rfl | rfl | rfl | rfl
      all_goals fail "zrp"
    intro σ1 H8 h1
    rw [hIv] at h1
    obtain ⟨l8, xs, rfl, hs8, hl8, z8, hx8⟩ := h1
    refine zss_cut (Iv 11) (fun nx hnx => ?_) ?_
    · fail "za"
      · simp only [List.length_cons, List.length_nil]; rw [sizeLine_eq]; omega
      rename_i lx nlx
      refine hnx _ _ ?_
      rw [hIv]
      refine ⟨_, _, rfl, by fail "zsrc", upd_same, by rw [List.length_append]; simp only [List.length_cons, List.length_nil]; omega, fun v hv => ?_⟩
      rcases List.mem_append.mp hv with hv | hv
      · exact (hx8 v hv).same (by fail "zsm")
      simp only [List.mem_cons, List.not_mem_nil, or_false] at hv
      rcases hv with rfl | rfl | rfl
      all_goals fail "zrp"
    intro σ1 H9 h1
    rw [hIv] at h1
    obtain ⟨l9, xs, rfl, hs9, hl9, z9, hx9⟩ := h1
    refine zss_cut (Iv 14) (fun nx hnx => ?_) ?_
    · fail "za"
      · simp only [List.length_cons, List.length_nil]; rw [sizeLine_eq]; omega
      rename_i lx nlx
      refine hnx _ _ ?_
      rw [hIv]
      refine ⟨_, _, rfl, by fail "zsrc", upd_same, by rw [List.length_append]; simp only [List.length_cons, List.length_nil]; omega, fun v hv => ?_⟩
      rcases List.mem_append.mp hv with hv | hv
      · exact (hx9 v hv).same (by fail "zsm")
      simp only [List.mem_cons, List.not_mem_nil, or_false] at hv
      rcases hv with rfl | rfl | rfl
      all_goals fail "zrp"
    intro σ1 HA h1
    rw [hIv] at h1
    obtain ⟨lA, xs, rfl, hsA, hlA, zA, hxA⟩ := h1
    refine zss_cut (Iv 18) (fun nx hnx => ?_) ?_
    · fail "za"
      · simp only [List.length_cons, List.length_nil]; rw [sizeLine_eq]; omega
      rename_i r1 nr1 lx nlx ly nly
      have sA : Same HA (upd (upd (upd HA r1 (.lst [.int bad, .int thin, .non, .non])) lx (.lst [.ref r1])) ly (.lst (xs ++ [.ref r1]))) := by fail "zsm"
      have hly : (upd (upd (upd HA r1 (.lst [.int bad, .int thin, .non, .non])) lx (.lst [.ref r1])) ly (.lst (xs ++ [.ref r1]))) ly = some (.lst (xs ++ [.ref r1])) := upd_same
      have hr1 : RowP (upd (upd (upd HA r1 (.lst [.int bad, .int thin, .non, .non])) lx (.lst [.ref r1])) ly (.lst (xs ++ [.ref r1]))) (.ref r1) := by fail "zrp"
      generalize upd (upd (upd HA r1 (.lst [.int bad, .int thin, .non, .non])) lx (.lst [.ref r1])) ly (.lst (xs ++ [.ref r1])) = HB at *
      have hsB := hsA.same sA
      have hxB : ∀ v ∈ xs ++ [V.ref r1], RowP HB v := fun v hv => by
        rcases List.mem_append.mp hv with hv | hv
        · exact (hxA v hv).same sA
        · obtain rfl := List.mem_singleton.mp hv; exact hr1
      refine ze_lcR (own := [("k", 10)]) rfl sc_law.nd (blkOk_by (show blkC N_law (defScope S_law) _ _ = true by decide +kernel)) B.range ?_
      fail "za"
      rename_i v v0 v9
      refine ⟨by omega, by omega, fun D nD => ?_⟩
      replace nD : NoA HB D := ⟨nD⟩
      refine ⟨fun i H' => i ≤ v.toNat ∧ Same HB H' ∧ ∃ acc : List V, H' D = some (.lst acc) ∧ acc.length = i ∧ ∀ u ∈ acc, u ≠ .ref D ∧ RowP H' u, ⟨by omega, by fail "zsm", [], upd_same, rfl, fun v h => by cases h⟩, ?_, ?_⟩
      · rintro i H' hi ⟨_, s5, acc, hD, la, hacc⟩
        have hs5 := hsB.same s5
        refine fun s1 H1 C1 cl fp => ?_
        show ZG _ _ _ [some (.ref a), some (.ref src), some (.int good), some (.int many), some (.int side), some (.int bad), some (.int thin), some (.ref lA), none, none, none] _ _
        fail "z"
        refine ⟨rfl, fun s1 H1 C1 cl fp => ?_⟩
        fail "za"
        refine any_do hs5 (fun q b n bo to H6 s6 nq tq => ?_)
        have hD6 := s6 _ _ hD
        have nqD : V.ref q ≠ V.ref D := fun z => by
          have z := V.ref.inj z
          have := nq.e; rw [z, hD] at this; cases this
        refine ⟨acc, hD6, by rw [la, sizeLine_eq]; omega, by omega, Same.put (s5.trans s6) nD.e, acc ++ [.ref q], upd_same, by rw [List.length_append, la]; rfl, fun u hu => ?_⟩
        rcases List.mem_append.mp hu with hu | hu
        · exact ⟨(hacc u hu).1, ((hacc u hu).2.same s6).up (hacc u hu).1⟩
        · obtain rfl := List.mem_singleton.mp hu
          exact ⟨nqD, RowP.up ⟨q, b, n, bo, to, rfl, tq⟩ nqD⟩
      rintro H5 ⟨_, s5, acc, hD, la, hacc⟩
      fail "za"
      · rw [List.length_append, la, sizeLine_eq]; simp only [List.length_cons, List.length_nil]; omega
      rename_i lz nlz
      refine hnx _ _ ?_
      rw [hIv]
      refine ⟨lz, _, rfl, Src.same (by fail "zsm") hsB, upd_same, by rw [List.length_append, List.length_append, la]; simp only [List.length_cons, List.length_nil]; omega, fun u hu => ?_⟩
      rcases List.mem_append.mp hu with hu | hu
      · exact (hxB u hu).same (by fail "zsm")
      · exact (hacc u hu).2.same (by fail "zsm")
    intro σ1 HB h1
    rw [hIv] at h1
    obtain ⟨lB, xs, rfl, hsB, hlB, zB, hxB⟩ := h1
    refine zss_cut (fun σ1 H1 => ∃ o1 o2 o3, σ1 = [some (.ref a), some (.ref src), some (.int good), some (.int many), some (.int side), some (.int bad), some (.int thin), some (.ref lB), o1, o2, o3] ∧ Same HB H1) (fun nx hnx => ?_) ?_
    · refine zs_forL pass_def rfl ?_
      fail "za"
      refine ⟨lB, xs, rfl, SqL.of hlB, fun i σ H' => ∃ o1 o2 o3, σ = [some (.ref a), some (.ref src), some (.int good), some (.int many), some (.int side), some (.int bad), some (.int thin), some (.ref lB), o1, o2, o3] ∧ Same HB H', ⟨_, _, _, rfl, .refl _⟩, ?_, ?_, ?_⟩
      · rintro i σ H' _ ⟨o1, o2, o3, rfl, s6⟩; exact SqL.of (s6 _ _ hlB)
      · rintro i y σ H6 hy ⟨o1, o2, o3, rfl, s6⟩
        obtain ⟨r, b, n, bo, to, rfl, hrow⟩ := (hxB y (List.mem_of_getElem? hy)).same s6
        fail "za"
        refine out_do hrow (.inr (.inr ⟨rfl, rfl, rfl, rfl⟩)) (fun q H7 s7 d7 => ?_)
        fail "za"
        refine due_do (s7 _ _ hrow) (fun q2 H8 s8 nq8 d8 => ?_)
        fail "za"
        refine equal_do ((d7.same s8).eq d8) ?_
        have hrow8 : RowI H8 r b n bo to := s8 _ _ (s7 _ _ hrow)
        have s68 : Same HB H8 := (s6.trans s7).trans s8
        fail "za"
        refine zs_forL pass_def rfl ?_
        fail "za"
        rename_i lw nlw
        have hlw : upd H8 lw (.lst [.int 2, .int 10]) lw = some (.lst [.int 2, .int 10]) := upd_same
        have sw : Same H8 (upd H8 lw (.lst [.int 2, .int 10])) := by fail "zsm"
        generalize upd H8 lw (.lst [.int 2, .int 10]) = H9 at *
        have hrow9 : RowI H9 r b n bo to := sw _ _ hrow8
        refine ⟨lw, _, rfl, SqL.of hlw, fun i σ H' => ∃ o2 o3, σ = [some (.ref a), some (.ref src), some (.int good), some (.int many), some (.int side), some (.int bad), some (.int thin), some (.ref lB), some (.ref r), o2, o3] ∧ Same H9 H', ⟨_, _, rfl, .refl _⟩, ?_, ?_, ?_⟩
        · rintro i σ H' _ ⟨o2, o3, rfl, s7⟩; exact SqL.of (s7 _ _ hlw)
        · rintro i y σ HC hy ⟨o2, o3, rfl, sC⟩
          obtain ⟨way, b', rfl, hw⟩ : ∃ way b' : Int, y = .int way ∧ WayR way b bo to b' none none ∧ b' = way := by
            match i, hy with
            | 0, hy => simp at hy; exact ⟨2, 2, hy.symm, .inl ⟨rfl, rfl, rfl, rfl⟩, rfl⟩
            | 1, hy => simp at hy; exact ⟨10, 10, hy.symm, .inr (.inl ⟨rfl, rfl, rfl, rfl⟩), rfl⟩
            | i + 2, hy => simp at hy
          obtain ⟨hw, rfl⟩ := hw
          have hrowC : RowI HC r b n bo to := sC _ _ hrow9
          fail "za"
          refine out_do hrowC hw (fun q HD sD dD => ?_)
          have hrowD := sD _ _ hrowC
          unfold RowI at hrowD
          fail "za"
          rename_i lq nlq
          refine due_do (bo := none) (to := none) (show RowI _ lq b' n none none from upd_same) (fun q2 HE sE nqE dE => ?_)
          fail "za"
          refine equal_do ((dD.same (by fail "zsm")).eq dE) ?_
          fail "za"
          exact ⟨_, _, rfl, by fail "zsm"⟩
        · rintro σ H' ⟨o2, o3, rfl, s7⟩
          exact ⟨_, _, _, rfl, by fail "zsm"⟩
      · rintro σ H' ⟨o1, o2, o3, rfl, s6⟩
        exact hnx _ _ ⟨_, _, _, rfl, s6⟩
    rintro _ HC ⟨o1, o2, o3, rfl, sC⟩
    fail "z0"
    refine eqs_do (hsB.same sC) (fun HD sD => ?_)
    fail "za"
    refine equal_do (.lstS (SqL.of (by fail "zh")) (SqL.of (by fail "zh")) (Nat.le_of_ble_eq_true rfl) (by fail "zsc")) ?_
    exact hQ _
end

theorem all_mk {w : World} {K : PySem.W.Frag} {h : Heap} {mg : Str → Option Value} {fa : Addr} (X : K.In h) (G : h.Ns mainGlobals mg) (hfa : mg "law" = some (.ref fa))
    {f_Grid p_Grid_binary p_Grid_decimal f_Grid___init__ KD_Grid___init__ f_Grid___eq__ f_Grid_binary f_Grid_decimal f_check_base f__law_source f__law_draw f__law_base f__law_precision f__law_small f__law_equal f__law_grid f__law_grid_made f__law_signed f__law_border f__law_any f__law_due f__law_outcome f__law_changed f__law_equals f_law f_LostError f_BadBase i_BadBase N_BadBase cda_BadBase cc_BadBase f_BadGrid i_BadGrid N_BadGrid cda_BadGrid cc_BadGrid : Addr}
    {od_Grid___init__ an_Grid___init__ od_Grid___eq__ an_Grid___eq__ od_Grid_binary an_Grid_binary od_Grid_decimal an_Grid_decimal od_check_base an_check_base od__law_source an__law_source od__law_draw an__law_draw od__law_base an__law_base od__law_precision an__law_precision od__law_small an__law_small od__law_equal an__law_equal od__law_grid an__law_grid od__law_grid_made an__law_grid_made od__law_signed an__law_signed od__law_border an__law_border od__law_any an__law_any od__law_due an__law_due od__law_outcome an__law_outcome od__law_changed an__law_changed od__law_equals an__law_equals od_law an_law dd_BadBase od_BadBase an_BadBase ccd_BadBase cld_BadBase dd_BadGrid od_BadGrid an_BadGrid ccd_BadGrid cld_BadGrid : Option Addr}
    {sl_Grid___init__ sl_Grid___eq__ sl_Grid_binary sl_Grid_decimal sl_check_base sl__law_source sl__law_draw sl__law_base sl__law_precision sl__law_small sl__law_equal sl__law_grid sl__law_grid_made sl__law_signed sl__law_border sl__law_any sl__law_due sl__law_outcome sl__law_changed sl__law_equals sl_law sl_BadBase ccs_BadBase csl_BadBase sl_BadGrid ccs_BadGrid csl_BadGrid : Array (Option Value)}
    {mc_Grid cu_Grid_LEAST cu_Grid_MOST oc_Grid___init__ dc_Grid___init__ pm_Grid___init__ cd_Grid___init__ ct_Grid___init__ ku0_Grid___init__ ku1_Grid___init__ oc_Grid___eq__ kV_Grid___eq__ dc_Grid___eq__ pm_Grid___eq__ cd_Grid___eq__ ct_Grid___eq__ oc_Grid_binary kV_Grid_binary dc_Grid_binary pm_Grid_binary cd_Grid_binary ct_Grid_binary oc_Grid_decimal kV_Grid_decimal dc_Grid_decimal pm_Grid_decimal cd_Grid_decimal ct_Grid_decimal oc_check_base kV_check_base dc_check_base pm_check_base cd_check_base ct_check_base oc__law_source kV__law_source dc__law_source pm__law_source cd__law_source ct__law_source oc__law_draw kV__law_draw dc__law_draw pm__law_draw cd__law_draw ct__law_draw oc__law_base kV__law_base dc__law_base pm__law_base cd__law_base ct__law_base oc__law_precision kV__law_precision dc__law_precision pm__law_precision cd__law_precision ct__law_precision oc__law_small kV__law_small dc__law_small pm__law_small cd__law_small ct__law_small oc__law_equal kV__law_equal dc__law_equal pm__law_equal cd__law_equal ct__law_equal oc__law_grid kV__law_grid dc__law_grid pm__law_grid cd__law_grid ct__law_grid oc__law_grid_made kV__law_grid_made dc__law_grid_made pm__law_grid_made cd__law_grid_made ct__law_grid_made oc__law_signed kV__law_signed dc__law_signed pm__law_signed cd__law_signed ct__law_signed oc__law_border kV__law_border dc__law_border pm__law_border cd__law_border ct__law_border oc__law_any kV__law_any dc__law_any pm__law_any cd__law_any ct__law_any oc__law_due kV__law_due dc__law_due pm__law_due cd__law_due ct__law_due oc__law_outcome kV__law_outcome dc__law_outcome pm__law_outcome cd__law_outcome ct__law_outcome oc__law_changed kV__law_changed dc__law_changed pm__law_changed cd__law_changed ct__law_changed oc__law_equals kV__law_equals dc__law_equals pm__law_equals cd__law_equals ct__law_equals oc_law kV_law dc_law pm_law cd_law ct_law oc_BadBase kV_BadBase dc_BadBase pm_BadBase ct_BadBase ccl_BadBase cl_BadBase oc_BadGrid kV_BadGrid dc_BadGrid pm_BadGrid ct_BadGrid ccl_BadGrid cl_BadGrid : Value}
    {rest_Grid_binary : List Value}
    {rest_Grid_decimal : List Value}
    {nm_BadBase q_BadBase : Str}
    {bs_BadBase bm_BadBase sub_BadBase : List Value}
    {sn_BadBase : List Str}
    {ab_BadBase : Bool}
    {col_BadBase : Option Bool}
    {m0_BadBase m1_BadBase m2_BadBase m3_BadBase m5_BadBase : Option Value}
    {vs_BadBase : Array Value}
    {fl_BadBase : Str}
    {tf_BadBase : Tok}
    {nm_BadGrid q_BadGrid : Str}
    {bs_BadGrid bm_BadGrid sub_BadGrid : List Value}
    {sn_BadGrid : List Str}
    {ab_BadGrid : Bool}
    {col_BadGrid : Option Bool}
    {m0_BadGrid m1_BadGrid m2_BadGrid m3_BadGrid m5_BadGrid : Option Value}
    {vs_BadGrid : Array Value}
    {fl_BadGrid : Str}
    {tf_BadGrid : Tok}
    (a_Grid : PySem.W.nsIn K mainGlobals "Grid" = some (some (.ref f_Grid)))
    (pg_Grid : PySem.W.plainGet K f_Grid Str.empty = true)
    (hd_Grid : PySem.W.hasDictIn K f_Grid = true)
    (po_Grid : PySem.W.plainOver K f_Grid = true)
    (sa_Grid : PySem.W.findIn K (.ref f_Grid) "__setattr__" = some (some (.builtin "object.__setattr__")))
    (ha_Grid : PySem.W.findIn K (.ref f_Grid) "__class__" = some (some (.builtin "object.__class__")))
    (hm_Grid : PySem.W.mroIn K f_Grid (.type "object") = some true)
    (kc_Grid : PySem.W.keepIn K (.ref f_Grid) = true)
    (mk_Grid : PySem.W.makesIn K f_Grid = true)
    (ii_Grid : PySem.W.findIn K (.ref f_Grid) "__init__" = some (some (.ref f_Grid___init__)))
    (fi_Grid : PySem.W.isFn K (.ref f_Grid___init__) = true)
    (ty_Grid : PySem.W.typeIn K (.ref f_Grid) = some mc_Grid)
    (rd_Grid : PySem.W.readsIn K f_Grid mc_Grid = true)
    (rg_Grid : PySem.W.specialIn K (.ref f_Grid) "__getattribute__" = some (some (.builtin "type.__getattribute__")))
    (cv_LEAST_Grid : PySem.W.findCls K (.ref f_Grid) mc_Grid "LEAST" = some (.val cu_Grid_LEAST))
    (cr_LEAST_Grid : RelV (.int 3) cu_Grid_LEAST)
    (cv_MOST_Grid : PySem.W.findCls K (.ref f_Grid) mc_Grid "MOST" = some (.val cu_Grid_MOST))
    (cr_MOST_Grid : RelV (.int 200) cu_Grid_MOST)
    (cat_Grid_binary : PySem.W.findCls K (.ref f_Grid) mc_Grid "binary" = some (.get (.builtin "classmethod.__get__") (.ref p_Grid_binary) .none (.ref f_Grid)))
    (crc_Grid_binary : PySem.W.recIn K p_Grid_binary "classmethod" = some (.ref f_Grid_binary :: rest_Grid_binary))
    (cfn_Grid_binary : PySem.W.fnIn K f_Grid_binary = true)
    (cat_Grid_decimal : PySem.W.findCls K (.ref f_Grid) mc_Grid "decimal" = some (.get (.builtin "classmethod.__get__") (.ref p_Grid_decimal) .none (.ref f_Grid)))
    (crc_Grid_decimal : PySem.W.recIn K p_Grid_decimal "classmethod" = some (.ref f_Grid_decimal :: rest_Grid_decimal))
    (cfn_Grid_decimal : PySem.W.fnIn K f_Grid_decimal = true)
    (nb_Grid_int : PySem.W.mroIn K f_Grid (.type "int") = some false)
    (ni_Grid_int : PySem.W.kitOne K (.type "int") (.ref f_Grid) = some false)
    (nb_Grid_bool : PySem.W.mroIn K f_Grid (.type "bool") = some false)
    (ni_Grid_bool : PySem.W.kitOne K (.type "bool") (.ref f_Grid) = some false)
    (nb_Grid_str : PySem.W.mroIn K f_Grid (.type "str") = some false)
    (ni_Grid_str : PySem.W.kitOne K (.type "str") (.ref f_Grid) = some false)
    (nb_Grid_list : PySem.W.mroIn K f_Grid (.type "list") = some false)
    (ni_Grid_list : PySem.W.kitOne K (.type "list") (.ref f_Grid) = some false)
    (nb_Grid_tuple : PySem.W.mroIn K f_Grid (.type "tuple") = some false)
    (ni_Grid_tuple : PySem.W.kitOne K (.type "tuple") (.ref f_Grid) = some false)
    (nb_Grid_NoneType : PySem.W.mroIn K f_Grid (.type "NoneType") = some false)
    (ni_Grid_NoneType : PySem.W.kitOne K (.type "NoneType") (.ref f_Grid) = some false)
    (hne_Grid : PySem.W.findIn K (.ref f_Grid) "__ne__" = some (some (.builtin "object.__ne__")))
    (n_base_Grid : PySem.W.findIn K (.ref f_Grid) "base" = some none)
    (n_precision_Grid : PySem.W.findIn K (.ref f_Grid) "precision" = some none)
    (n_bottom_Grid : PySem.W.findIn K (.ref f_Grid) "bottom" = some none)
    (n_top_Grid : PySem.W.findIn K (.ref f_Grid) "top" = some none)
    (at___eq___Grid : PySem.W.findIn K (.ref f_Grid) "__eq__" = some (some (.ref f_Grid___eq__)))
    (if___eq___Grid : PySem.W.isFn K (.ref f_Grid___eq__) = true)
    (l_Grid___init__ : K.lookup f_Grid___init__ = some ⟨oc_Grid___init__, od_Grid___init__, .func (PySem.W.fnOf "__init__" "Grid.__init__" (defArgs S_Grid___init__) (defBody S_Grid___init__) (defScope S_Grid___init__) .none (.ref KD_Grid___init__) dc_Grid___init__ pm_Grid___init__ an_Grid___init__ cd_Grid___init__ ct_Grid___init__), sl_Grid___init__⟩)
    (kd0_Grid___init__ : PySem.W.nsIn K KD_Grid___init__ "bottom" = some (some ku0_Grid___init__))
    (kr0_Grid___init__ : RelV (.non) ku0_Grid___init__)
    (kd1_Grid___init__ : PySem.W.nsIn K KD_Grid___init__ "top" = some (some ku1_Grid___init__))
    (kr1_Grid___init__ : RelV (.non) ku1_Grid___init__)
    (c_Grid___init__ : PySem.W.codeIn K cd_Grid___init__ "Grid.__init__" = true)
    (k_Grid___init__ : PySem.W.keepIn K (.ref f_Grid___init__) = true)
    (l_Grid___eq__ : K.lookup f_Grid___eq__ = some ⟨oc_Grid___eq__, od_Grid___eq__, .func (PySem.W.fnOf "__eq__" "Grid.__eq__" (defArgs S_Grid___eq__) (defBody S_Grid___eq__) (defScope S_Grid___eq__) .none kV_Grid___eq__ dc_Grid___eq__ pm_Grid___eq__ an_Grid___eq__ cd_Grid___eq__ ct_Grid___eq__), sl_Grid___eq__⟩)
    (c_Grid___eq__ : PySem.W.codeIn K cd_Grid___eq__ "Grid.__eq__" = true)
    (k_Grid___eq__ : PySem.W.keepIn K (.ref f_Grid___eq__) = true)
    (l_Grid_binary : K.lookup f_Grid_binary = some ⟨oc_Grid_binary, od_Grid_binary, .func (PySem.W.fnOf "binary" "Grid.binary" (defArgs S_Grid_binary) (defBody S_Grid_binary) (defScope S_Grid_binary) .none kV_Grid_binary dc_Grid_binary pm_Grid_binary an_Grid_binary cd_Grid_binary ct_Grid_binary), sl_Grid_binary⟩)
    (c_Grid_binary : PySem.W.codeIn K cd_Grid_binary "Grid.binary" = true)
    (k_Grid_binary : PySem.W.keepIn K (.ref f_Grid_binary) = true)
    (l_Grid_decimal : K.lookup f_Grid_decimal = some ⟨oc_Grid_decimal, od_Grid_decimal, .func (PySem.W.fnOf "decimal" "Grid.decimal" (defArgs S_Grid_decimal) (defBody S_Grid_decimal) (defScope S_Grid_decimal) .none kV_Grid_decimal dc_Grid_decimal pm_Grid_decimal an_Grid_decimal cd_Grid_decimal ct_Grid_decimal), sl_Grid_decimal⟩)
    (c_Grid_decimal : PySem.W.codeIn K cd_Grid_decimal "Grid.decimal" = true)
    (k_Grid_decimal : PySem.W.keepIn K (.ref f_Grid_decimal) = true)
    (a_check_base : PySem.W.nsIn K mainGlobals "check_base" = some (some (.ref f_check_base)))
    (l_check_base : K.lookup f_check_base = some ⟨oc_check_base, od_check_base, .func (PySem.W.fnOf "check_base" "check_base" (defArgs S_check_base) (defBody S_check_base) (defScope S_check_base) .none kV_check_base dc_check_base pm_check_base an_check_base cd_check_base ct_check_base), sl_check_base⟩)
    (c_check_base : PySem.W.codeIn K cd_check_base "check_base" = true)
    (k_check_base : PySem.W.keepIn K (.ref f_check_base) = true)
    (a__law_source : PySem.W.nsIn K mainGlobals "_law_source" = some (some (.ref f__law_source)))
    (l__law_source : K.lookup f__law_source = some ⟨oc__law_source, od__law_source, .func (PySem.W.fnOf "_law_source" "_law_source" (defArgs S__law_source) (defBody S__law_source) (defScope S__law_source) .none kV__law_source dc__law_source pm__law_source an__law_source cd__law_source ct__law_source), sl__law_source⟩)
    (c__law_source : PySem.W.codeIn K cd__law_source "_law_source" = true)
    (k__law_source : PySem.W.keepIn K (.ref f__law_source) = true)
    (a__law_draw : PySem.W.nsIn K mainGlobals "_law_draw" = some (some (.ref f__law_draw)))
    (l__law_draw : K.lookup f__law_draw = some ⟨oc__law_draw, od__law_draw, .func (PySem.W.fnOf "_law_draw" "_law_draw" (defArgs S__law_draw) (defBody S__law_draw) (defScope S__law_draw) .none kV__law_draw dc__law_draw pm__law_draw an__law_draw cd__law_draw ct__law_draw), sl__law_draw⟩)
    (c__law_draw : PySem.W.codeIn K cd__law_draw "_law_draw" = true)
    (k__law_draw : PySem.W.keepIn K (.ref f__law_draw) = true)
    (a__law_base : PySem.W.nsIn K mainGlobals "_law_base" = some (some (.ref f__law_base)))
    (l__law_base : K.lookup f__law_base = some ⟨oc__law_base, od__law_base, .func (PySem.W.fnOf "_law_base" "_law_base" (defArgs S__law_base) (defBody S__law_base) (defScope S__law_base) .none kV__law_base dc__law_base pm__law_base an__law_base cd__law_base ct__law_base), sl__law_base⟩)
    (c__law_base : PySem.W.codeIn K cd__law_base "_law_base" = true)
    (k__law_base : PySem.W.keepIn K (.ref f__law_base) = true)
    (a__law_precision : PySem.W.nsIn K mainGlobals "_law_precision" = some (some (.ref f__law_precision)))
    (l__law_precision : K.lookup f__law_precision = some ⟨oc__law_precision, od__law_precision, .func (PySem.W.fnOf "_law_precision" "_law_precision" (defArgs S__law_precision) (defBody S__law_precision) (defScope S__law_precision) .none kV__law_precision dc__law_precision pm__law_precision an__law_precision cd__law_precision ct__law_precision), sl__law_precision⟩)
    (c__law_precision : PySem.W.codeIn K cd__law_precision "_law_precision" = true)
    (k__law_precision : PySem.W.keepIn K (.ref f__law_precision) = true)
    (a__law_small : PySem.W.nsIn K mainGlobals "_law_small" = some (some (.ref f__law_small)))
    (l__law_small : K.lookup f__law_small = some ⟨oc__law_small, od__law_small, .func (PySem.W.fnOf "_law_small" "_law_small" (defArgs S__law_small) (defBody S__law_small) (defScope S__law_small) .none kV__law_small dc__law_small pm__law_small an__law_small cd__law_small ct__law_small), sl__law_small⟩)
    (c__law_small : PySem.W.codeIn K cd__law_small "_law_small" = true)
    (k__law_small : PySem.W.keepIn K (.ref f__law_small) = true)
    (a__law_equal : PySem.W.nsIn K mainGlobals "_law_equal" = some (some (.ref f__law_equal)))
    (l__law_equal : K.lookup f__law_equal = some ⟨oc__law_equal, od__law_equal, .func (PySem.W.fnOf "_law_equal" "_law_equal" (defArgs S__law_equal) (defBody S__law_equal) (defScope S__law_equal) .none kV__law_equal dc__law_equal pm__law_equal an__law_equal cd__law_equal ct__law_equal), sl__law_equal⟩)
    (c__law_equal : PySem.W.codeIn K cd__law_equal "_law_equal" = true)
    (k__law_equal : PySem.W.keepIn K (.ref f__law_equal) = true)
    (a__law_grid : PySem.W.nsIn K mainGlobals "_law_grid" = some (some (.ref f__law_grid)))
    (l__law_grid : K.lookup f__law_grid = some ⟨oc__law_grid, od__law_grid, .func (PySem.W.fnOf "_law_grid" "_law_grid" (defArgs S__law_grid) (defBody S__law_grid) (defScope S__law_grid) .none kV__law_grid dc__law_grid pm__law_grid an__law_grid cd__law_grid ct__law_grid), sl__law_grid⟩)
    (c__law_grid : PySem.W.codeIn K cd__law_grid "_law_grid" = true)
    (k__law_grid : PySem.W.keepIn K (.ref f__law_grid) = true)
    (a__law_grid_made : PySem.W.nsIn K mainGlobals "_law_grid_made" = some (some (.ref f__law_grid_made)))
    (l__law_grid_made : K.lookup f__law_grid_made = some ⟨oc__law_grid_made, od__law_grid_made, .func (PySem.W.fnOf "_law_grid_made" "_law_grid_made" (defArgs S__law_grid_made) (defBody S__law_grid_made) (defScope S__law_grid_made) .none kV__law_grid_made dc__law_grid_made pm__law_grid_made an__law_grid_made cd__law_grid_made ct__law_grid_made), sl__law_grid_made⟩)
    (c__law_grid_made : PySem.W.codeIn K cd__law_grid_made "_law_grid_made" = true)
    (k__law_grid_made : PySem.W.keepIn K (.ref f__law_grid_made) = true)
    (a__law_signed : PySem.W.nsIn K mainGlobals "_law_signed" = some (some (.ref f__law_signed)))
    (l__law_signed : K.lookup f__law_signed = some ⟨oc__law_signed, od__law_signed, .func (PySem.W.fnOf "_law_signed" "_law_signed" (defArgs S__law_signed) (defBody S__law_signed) (defScope S__law_signed) .none kV__law_signed dc__law_signed pm__law_signed an__law_signed cd__law_signed ct__law_signed), sl__law_signed⟩)
    (c__law_signed : PySem.W.codeIn K cd__law_signed "_law_signed" = true)
    (k__law_signed : PySem.W.keepIn K (.ref f__law_signed) = true)
    (a__law_border : PySem.W.nsIn K mainGlobals "_law_border" = some (some (.ref f__law_border)))
    (l__law_border : K.lookup f__law_border = some ⟨oc__law_border, od__law_border, .func (PySem.W.fnOf "_law_border" "_law_border" (defArgs S__law_border) (defBody S__law_border) (defScope S__law_border) .none kV__law_border dc__law_border pm__law_border an__law_border cd__law_border ct__law_border), sl__law_border⟩)
    (c__law_border : PySem.W.codeIn K cd__law_border "_law_border" = true)
    (k__law_border : PySem.W.keepIn K (.ref f__law_border) = true)
    (a__law_any : PySem.W.nsIn K mainGlobals "_law_any" = some (some (.ref f__law_any)))
    (l__law_any : K.lookup f__law_any = some ⟨oc__law_any, od__law_any, .func (PySem.W.fnOf "_law_any" "_law_any" (defArgs S__law_any) (defBody S__law_any) (defScope S__law_any) .none kV__law_any dc__law_any pm__law_any an__law_any cd__law_any ct__law_any), sl__law_any⟩)
    (c__law_any : PySem.W.codeIn K cd__law_any "_law_any" = true)
    (k__law_any : PySem.W.keepIn K (.ref f__law_any) = true)
    (a__law_due : PySem.W.nsIn K mainGlobals "_law_due" = some (some (.ref f__law_due)))
    (l__law_due : K.lookup f__law_due = some ⟨oc__law_due, od__law_due, .func (PySem.W.fnOf "_law_due" "_law_due" (defArgs S__law_due) (defBody S__law_due) (defScope S__law_due) .none kV__law_due dc__law_due pm__law_due an__law_due cd__law_due ct__law_due), sl__law_due⟩)
    (c__law_due : PySem.W.codeIn K cd__law_due "_law_due" = true)
    (k__law_due : PySem.W.keepIn K (.ref f__law_due) = true)
    (a__law_outcome : PySem.W.nsIn K mainGlobals "_law_outcome" = some (some (.ref f__law_outcome)))
    (l__law_outcome : K.lookup f__law_outcome = some ⟨oc__law_outcome, od__law_outcome, .func (PySem.W.fnOf "_law_outcome" "_law_outcome" (defArgs S__law_outcome) (defBody S__law_outcome) (defScope S__law_outcome) .none kV__law_outcome dc__law_outcome pm__law_outcome an__law_outcome cd__law_outcome ct__law_outcome), sl__law_outcome⟩)
    (c__law_outcome : PySem.W.codeIn K cd__law_outcome "_law_outcome" = true)
    (k__law_outcome : PySem.W.keepIn K (.ref f__law_outcome) = true)
    (a__law_changed : PySem.W.nsIn K mainGlobals "_law_changed" = some (some (.ref f__law_changed)))
    (l__law_changed : K.lookup f__law_changed = some ⟨oc__law_changed, od__law_changed, .func (PySem.W.fnOf "_law_changed" "_law_changed" (defArgs S__law_changed) (defBody S__law_changed) (defScope S__law_changed) .none kV__law_changed dc__law_changed pm__law_changed an__law_changed cd__law_changed ct__law_changed), sl__law_changed⟩)
    (c__law_changed : PySem.W.codeIn K cd__law_changed "_law_changed" = true)
    (k__law_changed : PySem.W.keepIn K (.ref f__law_changed) = true)
    (a__law_equals : PySem.W.nsIn K mainGlobals "_law_equals" = some (some (.ref f__law_equals)))
    (l__law_equals : K.lookup f__law_equals = some ⟨oc__law_equals, od__law_equals, .func (PySem.W.fnOf "_law_equals" "_law_equals" (defArgs S__law_equals) (defBody S__law_equals) (defScope S__law_equals) .none kV__law_equals dc__law_equals pm__law_equals an__law_equals cd__law_equals ct__law_equals), sl__law_equals⟩)
    (c__law_equals : PySem.W.codeIn K cd__law_equals "_law_equals" = true)
    (k__law_equals : PySem.W.keepIn K (.ref f__law_equals) = true)
    (a_law : PySem.W.nsIn K mainGlobals "law" = some (some (.ref f_law)))
    (l_law : K.lookup f_law = some ⟨oc_law, od_law, .func (PySem.W.fnOf "law" "law" (defArgs S_law) (defBody S_law) (defScope S_law) .none kV_law dc_law pm_law an_law cd_law ct_law), sl_law⟩)
    (c_law : PySem.W.codeIn K cd_law "law" = true)
    (k_law : PySem.W.keepIn K (.ref f_law) = true)
    (a_LostError : PySem.W.nsIn K mainGlobals "LostError" = some (some (.ref f_LostError)))
    (z_len : PySem.W.nsIn K mainGlobals "len" = some none)
    (z_int : PySem.W.nsIn K mainGlobals "int" = some none)
    (z_abs : PySem.W.nsIn K mainGlobals "abs" = some none)
    (z_isi : PySem.W.nsIn K mainGlobals "isinstance" = some none)
    (z_range : PySem.W.nsIn K mainGlobals "range" = some none)
    (z_boo : PySem.W.nsIn K mainGlobals "bool" = some none)
    (z_str : PySem.W.nsIn K mainGlobals "str" = some none)
    (z_lst : PySem.W.nsIn K mainGlobals "list" = some none)
    (z_tup : PySem.W.nsIn K mainGlobals "tuple" = some none)
    (z_max : PySem.W.nsIn K mainGlobals "max" = some none)
    (z_min : PySem.W.nsIn K mainGlobals "min" = some none)
    (z_zip : PySem.W.nsIn K mainGlobals "zip" = some none)
    (z_srt : PySem.W.nsIn K mainGlobals "sorted" = some none)
    (z_rev : PySem.W.nsIn K mainGlobals "reversed" = some none)
    (z_dm : PySem.W.nsIn K mainGlobals "divmod" = some none)
    (z_enu : PySem.W.nsIn K mainGlobals "enumerate" = some none)
    (z_sum : PySem.W.nsIn K mainGlobals "sum" = some none)
    (z_ve : PySem.W.nsIn K mainGlobals "ValueError" = some none)
    (x_hn : PySem.W.specialIn K (.builtin "object.__class__") "__get__" = some (some (.builtin "getset_descriptor.__get__")))
    (x_ht : PySem.W.takesIn K (.builtin "object.__class__") = some true)
    (x_op : PySem.W.nsIn K cStatics "thirdparty.any" = some none)
    (x_su : PySem.W.nsIn K mainGlobals "super" = some none)
    (a_BadBase : PySem.W.nsIn K mainGlobals "BadBase" = some (some (.ref f_BadBase)))
    (x_BadBase : K.lookup f_BadBase = some (excClassObj nm_BadBase q_BadBase f_BadBase N_BadBase bs_BadBase bm_BadBase true sn_BadBase sub_BadBase ab_BadBase col_BadBase dd_BadBase m0_BadBase m1_BadBase m2_BadBase m3_BadBase m5_BadBase "ValueError.__new__"))
    (rv_BadBase : PySem.HandSPX.refsVE bm_BadBase = true)
    (sa_BadBase : PySem.W.findIn K (.ref f_BadBase) "__setattr__" = some (some (.builtin "object.__setattr__")))
    (ga_BadBase : PySem.W.findIn K (.ref f_BadBase) "__getattribute__" = some (some (.builtin "BaseException.__getattribute__")))
    (gg_BadBase : PySem.W.findIn K (.ref f_BadBase) "__getattr__" = some none)
    (ha_BadBase : PySem.W.findIn K (.ref f_BadBase) "__class__" = some (some (.builtin "object.__class__")))
    (hm_BadBase : PySem.W.mroIn K f_BadBase (.type "object") = some true)
    (ms_BadBase : PySem.W.mroIn K f_BadBase (.ref f_BadBase) = some true)
    (eC_BadBase : PySem.W.subIn K (.ref f_BadBase) (.type "BaseException") = some true)
    (sV_BadBase : PySem.W.subIn K (.ref f_BadBase) (.type "ValueError") = some true)
    (tC_BadBase : PySem.W.typeIn K (.ref f_BadBase) = some (.type "type"))
    (kC_BadBase : PySem.W.keepIn K (.ref f_BadBase) = true)
    (hd_BadBase : PySem.W.hasDictIn K f_BadBase = true)
    (ii_BadBase : PySem.W.findIn K (.ref f_BadBase) "__init__" = some (some (.ref i_BadBase)))
    (ti_BadBase : PySem.W.typeIn K (.ref i_BadBase) = some (.type "function"))
    (li_BadBase : K.lookup i_BadBase = some ⟨oc_BadBase, od_BadBase, .func (PySem.W.ksFn "__init__" "BadBase.__init__" (defArgs S_BadBase___init__) (defBody S_BadBase___init__) (defScope S_BadBase___init__) .none kV_BadBase dc_BadBase pm_BadBase an_BadBase (.ref cda_BadBase) ct_BadBase cc_BadBase), sl_BadBase⟩)
    (ci_BadBase : PySem.W.codeIn K (.ref cda_BadBase) "BadBase.__init__" = true)
    (lc_BadBase : K.lookup cda_BadBase = some ⟨ccl_BadBase, ccd_BadBase, .fields vs_BadBase, ccs_BadBase⟩)
    (v2_BadBase : vs_BadBase[2]? = some (.str fl_BadBase tf_BadBase))
    (fe_BadBase : ((PySem.Challenge.pw_lostpart_k12_grids_refused).main.file == fl_BadBase) = true)
    (lk_BadBase : K.lookup cc_BadBase = some ⟨cl_BadBase, cld_BadBase, .cell (some (.ref f_BadBase)), csl_BadBase⟩)
    (su_BadBase : PySem.W.ks_superIn K f_BadBase f_BadBase "__init__" = some (some (.builtin "ValueError.__init__")))
    (n_base_BadBase : PySem.W.findIn K (.ref f_BadBase) "base" = some none)
    (a_BadGrid : PySem.W.nsIn K mainGlobals "BadGrid" = some (some (.ref f_BadGrid)))
    (x_BadGrid : K.lookup f_BadGrid = some (excClassObj nm_BadGrid q_BadGrid f_BadGrid N_BadGrid bs_BadGrid bm_BadGrid true sn_BadGrid sub_BadGrid ab_BadGrid col_BadGrid dd_BadGrid m0_BadGrid m1_BadGrid m2_BadGrid m3_BadGrid m5_BadGrid "ValueError.__new__"))
    (rv_BadGrid : PySem.HandSPX.refsVE bm_BadGrid = true)
    (sa_BadGrid : PySem.W.findIn K (.ref f_BadGrid) "__setattr__" = some (some (.builtin "object.__setattr__")))
    (ga_BadGrid : PySem.W.findIn K (.ref f_BadGrid) "__getattribute__" = some (some (.builtin "BaseException.__getattribute__")))
    (gg_BadGrid : PySem.W.findIn K (.ref f_BadGrid) "__getattr__" = some none)
    (ha_BadGrid : PySem.W.findIn K (.ref f_BadGrid) "__class__" = some (some (.builtin "object.__class__")))
    (hm_BadGrid : PySem.W.mroIn K f_BadGrid (.type "object") = some true)
    (ms_BadGrid : PySem.W.mroIn K f_BadGrid (.ref f_BadGrid) = some true)
    (eC_BadGrid : PySem.W.subIn K (.ref f_BadGrid) (.type "BaseException") = some true)
    (sV_BadGrid : PySem.W.subIn K (.ref f_BadGrid) (.type "ValueError") = some true)
    (tC_BadGrid : PySem.W.typeIn K (.ref f_BadGrid) = some (.type "type"))
    (kC_BadGrid : PySem.W.keepIn K (.ref f_BadGrid) = true)
    (hd_BadGrid : PySem.W.hasDictIn K f_BadGrid = true)
    (ii_BadGrid : PySem.W.findIn K (.ref f_BadGrid) "__init__" = some (some (.ref i_BadGrid)))
    (ti_BadGrid : PySem.W.typeIn K (.ref i_BadGrid) = some (.type "function"))
    (li_BadGrid : K.lookup i_BadGrid = some ⟨oc_BadGrid, od_BadGrid, .func (PySem.W.ksFn "__init__" "BadGrid.__init__" (defArgs S_BadGrid___init__) (defBody S_BadGrid___init__) (defScope S_BadGrid___init__) .none kV_BadGrid dc_BadGrid pm_BadGrid an_BadGrid (.ref cda_BadGrid) ct_BadGrid cc_BadGrid), sl_BadGrid⟩)
    (ci_BadGrid : PySem.W.codeIn K (.ref cda_BadGrid) "BadGrid.__init__" = true)
    (lc_BadGrid : K.lookup cda_BadGrid = some ⟨ccl_BadGrid, ccd_BadGrid, .fields vs_BadGrid, ccs_BadGrid⟩)
    (v2_BadGrid : vs_BadGrid[2]? = some (.str fl_BadGrid tf_BadGrid))
    (fe_BadGrid : ((PySem.Challenge.pw_lostpart_k12_grids_refused).main.file == fl_BadGrid) = true)
    (lk_BadGrid : K.lookup cc_BadGrid = some ⟨cl_BadGrid, cld_BadGrid, .cell (some (.ref f_BadGrid)), csl_BadGrid⟩)
    (su_BadGrid : PySem.W.ks_superIn K f_BadGrid f_BadGrid "__init__" = some (some (.builtin "ValueError.__init__")))
    (n_what_BadGrid : PySem.W.findIn K (.ref f_BadGrid) "what" = some none)
    (m_BadBase_LostError : PySem.W.exmOne K (.ref f_BadBase) (.ref f_LostError) = some true)
    (m_BadGrid_LostError : PySem.W.exmOne K (.ref f_BadGrid) (.ref f_LostError) = some true)
    (j_BadBase_BadBase : PySem.W.kitOne K (.ref f_BadBase) (.ref f_BadBase) = some true)
    (j_BadBase_ValueError : PySem.W.kitOne K (.ref f_BadBase) (.type "ValueError") = some true)
    (j_BadBase_BadGrid : PySem.W.kitOne K (.ref f_BadBase) (.ref f_BadGrid) = some false)
    (j_BadGrid_BadBase : PySem.W.kitOne K (.ref f_BadGrid) (.ref f_BadBase) = some false)
    (j_BadGrid_BadGrid : PySem.W.kitOne K (.ref f_BadGrid) (.ref f_BadGrid) = some true)
    (j_BadGrid_ValueError : PySem.W.kitOne K (.ref f_BadGrid) (.type "ValueError") = some true)
    : ∃ fd : FuncData, (∀ (s : Shared) (v : Value), BindsTo s fd ⟨[v], []⟩ [("script", v)]) ∧ ∀ base : Heap, K.In base → base.Ns mainGlobals mg → FnOk PySem.Challenge.pw_lostpart_k12_grids_refused w K mg base (L2N.CX PySem.Challenge.pw_lostpart_k12_grids_refused w) 7 fa fd ["script"] (spLaw K) := by
  have e := hfa.symm.trans (PySem.W.mg_of X G a_law)
  cases e
  have g_Grid := PySem.W.mg_of X G a_Grid
  have Cl_Grid : Cls K f_Grid := ⟨pg_Grid, hd_Grid, po_Grid, sa_Grid⟩
  have I_Grid : ClsI K f_Grid := ⟨Cl_Grid, ha_Grid, x_hn, x_ht, hm_Grid⟩
  have M_Grid : L2.Mk K f_Grid f_Grid___init__ := ⟨mk_Grid, ii_Grid, fi_Grid, kc_Grid⟩
  have Rd_Grid : ClX.CRead K f_Grid mc_Grid := ⟨rd_Grid, rg_Grid⟩
  have Cv_Grid_LEAST : ClX.CVal K f_Grid mc_Grid "LEAST" (.int 3) cu_Grid_LEAST := ⟨cv_LEAST_Grid, cr_LEAST_Grid⟩
  have Cv_Grid_MOST : ClX.CVal K f_Grid mc_Grid "MOST" (.int 200) cu_Grid_MOST := ⟨cv_MOST_Grid, cr_MOST_Grid⟩
  have Cm_Grid_binary : ClX.CMet K f_Grid mc_Grid "binary" p_Grid_binary f_Grid_binary := ⟨cat_Grid_binary, ⟨_, crc_Grid_binary⟩, cfn_Grid_binary⟩
  have Cm_Grid_decimal : ClX.CMet K f_Grid mc_Grid "decimal" p_Grid_decimal f_Grid_decimal := ⟨cat_Grid_decimal, ⟨_, crc_Grid_decimal⟩, cfn_Grid_decimal⟩
  have NB_Grid : NotB K f_Grid := .of nb_Grid_int nb_Grid_bool nb_Grid_str nb_Grid_list nb_Grid_tuple nb_Grid_NoneType
  have NI_Grid : NotI K f_Grid := ⟨fun T h => by rcases h with rfl | rfl | rfl | rfl | rfl | rfl <;> assumption⟩
  have Me_Grid___eq__ : Meth K f_Grid "__eq__" f_Grid___eq__ := ⟨at___eq___Grid, if___eq___Grid, k_Grid___eq__⟩
  have F_Grid___init__ : FunD K "__init__" "Grid.__init__" (defArgs S_Grid___init__) (defBody S_Grid___init__) (defScope S_Grid___init__) [] [("bottom", .non), ("top", .non)] f_Grid___init__ _ := ⟨⟨_, _, _, _, _, _, _, _, _, _, rfl, l_Grid___init__, c_Grid___init__, .inl ⟨rfl, rfl⟩, .inr ⟨_, rfl, (by intro q hq; simp only [List.mem_cons, List.not_mem_nil, or_false] at hq; rcases hq with rfl | rfl; exact ⟨_, kd0_Grid___init__, kr0_Grid___init__⟩; exact ⟨_, kd1_Grid___init__, kr1_Grid___init__⟩)⟩⟩, k_Grid___init__⟩
  have F_Grid___eq__ := fun_mk (st := S_Grid___eq__) l_Grid___eq__ c_Grid___eq__ k_Grid___eq__
  have b_Grid___eq__ := F_Grid___eq__.binds (ps := ["self", "other"]) fun _ _ _ _ _ _ us hl => match us, hl with | [_, _], _ => rfl
  have F_Grid_binary := fun_mk (st := S_Grid_binary) l_Grid_binary c_Grid_binary k_Grid_binary
  have b_Grid_binary := F_Grid_binary.binds (ps := ["cls", "precision"]) fun _ _ _ _ _ _ us hl => match us, hl with | [_, _], _ => rfl
  have F_Grid_decimal := fun_mk (st := S_Grid_decimal) l_Grid_decimal c_Grid_decimal k_Grid_decimal
  have b_Grid_decimal := F_Grid_decimal.binds (ps := ["cls", "precision"]) fun _ _ _ _ _ _ us hl => match us, hl with | [_, _], _ => rfl
  have F_check_base := fun_mk (st := S_check_base) l_check_base c_check_base k_check_base
  have b_check_base := F_check_base.binds (ps := ["base"]) fun _ _ _ _ _ _ us hl => match us, hl with | [_], _ => rfl
  have g_check_base := PySem.W.mg_of X G a_check_base
  have F__law_source := fun_mk (st := S__law_source) l__law_source c__law_source k__law_source
  have b__law_source := F__law_source.binds (ps := ["script"]) fun _ _ _ _ _ _ us hl => match us, hl with | [_], _ => rfl
  have g__law_source := PySem.W.mg_of X G a__law_source
  have F__law_draw := fun_mk (st := S__law_draw) l__law_draw c__law_draw k__law_draw
  have b__law_draw := F__law_draw.binds (ps := ["source", "many"]) fun _ _ _ _ _ _ us hl => match us, hl with | [_, _], _ => rfl
  have g__law_draw := PySem.W.mg_of X G a__law_draw
  have F__law_base := fun_mk (st := S__law_base) l__law_base c__law_base k__law_base
  have b__law_base := F__law_base.binds (ps := ["source"]) fun _ _ _ _ _ _ us hl => match us, hl with | [_], _ => rfl
  have g__law_base := PySem.W.mg_of X G a__law_base
  have F__law_precision := fun_mk (st := S__law_precision) l__law_precision c__law_precision k__law_precision
  have b__law_precision := F__law_precision.binds (ps := ["source", "most"]) fun _ _ _ _ _ _ us hl => match us, hl with | [_, _], _ => rfl
  have g__law_precision := PySem.W.mg_of X G a__law_precision
  have F__law_small := fun_mk (st := S__law_small) l__law_small c__law_small k__law_small
  have b__law_small := F__law_small.binds (ps := ["source"]) fun _ _ _ _ _ _ us hl => match us, hl with | [_], _ => rfl
  have g__law_small := PySem.W.mg_of X G a__law_small
  have F__law_equal := fun_mk (st := S__law_equal) l__law_equal c__law_equal k__law_equal
  have b__law_equal := F__law_equal.binds (ps := ["actual", "expected"]) fun _ _ _ _ _ _ us hl => match us, hl with | [_, _], _ => rfl
  have g__law_equal := PySem.W.mg_of X G a__law_equal
  have F__law_grid := fun_mk (st := S__law_grid) l__law_grid c__law_grid k__law_grid
  have b__law_grid := F__law_grid.binds (ps := ["source"]) fun _ _ _ _ _ _ us hl => match us, hl with | [_], _ => rfl
  have g__law_grid := PySem.W.mg_of X G a__law_grid
  have F__law_grid_made := fun_mk (st := S__law_grid_made) l__law_grid_made c__law_grid_made k__law_grid_made
  have b__law_grid_made := F__law_grid_made.binds (ps := ["row"]) fun _ _ _ _ _ _ us hl => match us, hl with | [_], _ => rfl
  have g__law_grid_made := PySem.W.mg_of X G a__law_grid_made
  have F__law_signed := fun_mk (st := S__law_signed) l__law_signed c__law_signed k__law_signed
  have b__law_signed := F__law_signed.binds (ps := ["source", "most"]) fun _ _ _ _ _ _ us hl => match us, hl with | [_, _], _ => rfl
  have g__law_signed := PySem.W.mg_of X G a__law_signed
  have F__law_border := fun_mk (st := S__law_border) l__law_border c__law_border k__law_border
  have b__law_border := F__law_border.binds (ps := ["source"]) fun _ _ _ _ _ _ us hl => match us, hl with | [_], _ => rfl
  have g__law_border := PySem.W.mg_of X G a__law_border
  have F__law_any := fun_mk (st := S__law_any) l__law_any c__law_any k__law_any
  have b__law_any := F__law_any.binds (ps := ["source"]) fun _ _ _ _ _ _ us hl => match us, hl with | [_], _ => rfl
  have g__law_any := PySem.W.mg_of X G a__law_any
  have F__law_due := fun_mk (st := S__law_due) l__law_due c__law_due k__law_due
  have b__law_due := F__law_due.binds (ps := ["row"]) fun _ _ _ _ _ _ us hl => match us, hl with | [_], _ => rfl
  have g__law_due := PySem.W.mg_of X G a__law_due
  have F__law_outcome := fun_mk (st := S__law_outcome) l__law_outcome c__law_outcome k__law_outcome
  have b__law_outcome := F__law_outcome.binds (ps := ["row", "way"]) fun _ _ _ _ _ _ us hl => match us, hl with | [_, _], _ => rfl
  have g__law_outcome := PySem.W.mg_of X G a__law_outcome
  have F__law_changed := fun_mk (st := S__law_changed) l__law_changed c__law_changed k__law_changed
  have b__law_changed := F__law_changed.binds (ps := ["source", "row"]) fun _ _ _ _ _ _ us hl => match us, hl with | [_, _], _ => rfl
  have g__law_changed := PySem.W.mg_of X G a__law_changed
  have F__law_equals := fun_mk (st := S__law_equals) l__law_equals c__law_equals k__law_equals
  have b__law_equals := F__law_equals.binds (ps := ["source"]) fun _ _ _ _ _ _ us hl => match us, hl with | [_], _ => rfl
  have g__law_equals := PySem.W.mg_of X G a__law_equals
  have F_law := fun_mk (st := S_law) l_law c_law k_law
  have b_law := F_law.binds (ps := ["script"]) fun _ _ _ _ _ _ us hl => match us, hl with | [_], _ => rfl
  have g_law := PySem.W.mg_of X G a_law
  have g_LostError := PySem.W.mg_of X G a_LostError
  have B : Blt mg := ⟨PySem.W.mg_none_of X G z_len, PySem.W.mg_none_of X G z_int, PySem.W.mg_none_of X G z_abs, PySem.W.mg_none_of X G z_isi, PySem.W.mg_none_of X G z_range, PySem.W.mg_none_of X G z_boo, PySem.W.mg_none_of X G z_str, PySem.W.mg_none_of X G z_lst, PySem.W.mg_none_of X G z_tup, PySem.W.mg_none_of X G z_max, PySem.W.mg_none_of X G z_min, PySem.W.mg_none_of X G z_zip, PySem.W.mg_none_of X G z_srt, PySem.W.mg_none_of X G z_rev, PySem.W.mg_none_of X G z_dm, PySem.W.mg_none_of X G z_enu, PySem.W.mg_none_of X G z_sum, PySem.W.mg_none_of X G z_ve⟩
  have T_BadBase : PySem.LX.ExcT K f_BadBase := ⟨⟨⟨_, _, _, _, _, _, _, _, _, _, _, _, _, _, _, x_BadBase, rv_BadBase⟩, sa_BadBase, eC_BadBase, tC_BadBase, kC_BadBase⟩, ga_BadBase, gg_BadBase, hd_BadBase, ha_BadBase, x_hn, x_ht, hm_BadBase⟩
  have I_BadBase : PySem.LX.InitT PySem.Challenge.pw_lostpart_k12_grids_refused K mg f_BadBase i_BadBase "BadBase.__init__" (defArgs S_BadBase___init__) (defBody S_BadBase___init__) (defScope S_BadBase___init__) := ⟨ii_BadBase, ti_BadBase, ⟨_, _, _, _, _, _, _, _, _, _, li_BadBase, ci_BadBase, ⟨_, _, _, _, _, _, lc_BadBase, v2_BadBase, fe_BadBase⟩, ⟨_, _, _, lk_BadBase⟩⟩, su_BadBase, ms_BadBase, sV_BadBase, x_op, PySem.W.mg_none_of X G x_su, by decide +kernel⟩
  have R_BadBase : PySem.LX.InitRuns PySem.Challenge.pw_lostpart_k12_grids_refused K mg f_BadBase i_BadBase ["base"] := PySem.LX.init1 T_BadBase I_BadBase (fun _ => rfl) ⟨rfl, rfl, rfl, rfl, rfl, by decide +kernel, by decide +kernel⟩ (fun _ _ _ _ _ _ _ us hl => match us, hl with | [_, _], _ => rfl) rfl rfl (by decide) (by decide) n_base_BadBase (fun _ => rfl)
  have E_BadBase : XCls PySem.Challenge.pw_lostpart_k12_grids_refused K mg "BadBase" f_BadBase ["base"] := ⟨T_BadBase, PySem.W.mg_of X G a_BadBase, _, ii_BadBase, ti_BadBase, R_BadBase⟩
  have T_BadGrid : PySem.LX.ExcT K f_BadGrid := ⟨⟨⟨_, _, _, _, _, _, _, _, _, _, _, _, _, _, _, x_BadGrid, rv_BadGrid⟩, sa_BadGrid, eC_BadGrid, tC_BadGrid, kC_BadGrid⟩, ga_BadGrid, gg_BadGrid, hd_BadGrid, ha_BadGrid, x_hn, x_ht, hm_BadGrid⟩
  have I_BadGrid : PySem.LX.InitT PySem.Challenge.pw_lostpart_k12_grids_refused K mg f_BadGrid i_BadGrid "BadGrid.__init__" (defArgs S_BadGrid___init__) (defBody S_BadGrid___init__) (defScope S_BadGrid___init__) := ⟨ii_BadGrid, ti_BadGrid, ⟨_, _, _, _, _, _, _, _, _, _, li_BadGrid, ci_BadGrid, ⟨_, _, _, _, _, _, lc_BadGrid, v2_BadGrid, fe_BadGrid⟩, ⟨_, _, _, lk_BadGrid⟩⟩, su_BadGrid, ms_BadGrid, sV_BadGrid, x_op, PySem.W.mg_none_of X G x_su, by decide +kernel⟩
  have R_BadGrid : PySem.LX.InitRuns PySem.Challenge.pw_lostpart_k12_grids_refused K mg f_BadGrid i_BadGrid ["what"] := PySem.LX.init1 T_BadGrid I_BadGrid (fun _ => rfl) ⟨rfl, rfl, rfl, rfl, rfl, by decide +kernel, by decide +kernel⟩ (fun _ _ _ _ _ _ _ us hl => match us, hl with | [_, _], _ => rfl) rfl rfl (by decide) (by decide) n_what_BadGrid (fun _ => rfl)
  have E_BadGrid : XCls PySem.Challenge.pw_lostpart_k12_grids_refused K mg "BadGrid" f_BadGrid ["what"] := ⟨T_BadGrid, PySem.W.mg_of X G a_BadGrid, _, ii_BadGrid, ti_BadGrid, R_BadGrid⟩
  refine ⟨PySem.W.fnOf "law" "law" (defArgs S_law) (defBody S_law) (defScope S_law) .none kV_law dc_law pm_law an_law cd_law ct_law, fun s v => .of_eq rfl, fun base _ _ => ?_⟩
  have C_src := Cal.of (ok_source (P := PySem.Challenge.pw_lostpart_k12_grids_refused) (w := w) (base := base) F__law_source B) g__law_source k__law_source b__law_source
  have C_draw := Cal.of (ok_draw (P := PySem.Challenge.pw_lostpart_k12_grids_refused) (w := w) (base := base) F__law_draw B) g__law_draw k__law_draw b__law_draw
  have C_eq := Cal.of (ok_equal (P := PySem.Challenge.pw_lostpart_k12_grids_refused) (w := w) (base := base) F__law_equal B g__law_equal k__law_equal b__law_equal 1) g__law_equal k__law_equal b__law_equal
  have C_eq2 := Cal.of (ok_equal (P := PySem.Challenge.pw_lostpart_k12_grids_refused) (w := w) (base := base) F__law_equal B g__law_equal k__law_equal b__law_equal 2) g__law_equal k__law_equal b__law_equal
  have C_base := Cal.of (ok_base F__law_base C_draw) g__law_base k__law_base b__law_base
  have C_cb := Cal.of (ok_cb (w := w) (base := base) F_check_base E_BadBase) g_check_base k_check_base b_check_base
  have C_small := Cal.of (ok_small F__law_small C_draw) g__law_small k__law_small b__law_small
  have C_prec := Cal.of (ok_prec F__law_precision C_draw) g__law_precision k__law_precision b__law_precision
  have C_gridl := Cal.of (ok_gridl F__law_grid C_draw C_base C_prec C_small) g__law_grid k__law_grid b__law_grid
  have GT : GrTxt K mg f_Grid := ⟨I_Grid, g_Grid, n_base_Grid, n_precision_Grid, n_bottom_Grid, n_top_Grid, _, Rd_Grid, ⟨_, Cv_Grid_LEAST⟩, ⟨_, Cv_Grid_MOST⟩⟩
  have G_ini := ok_gini F_Grid___init__ GT C_cb E_BadGrid
  have GC := grid_cals M_Grid F_Grid___init__ g_Grid G_ini
  have GO := grid_calO M_Grid F_Grid___init__ g_Grid G_ini
  have S_bin : CalS PySem.Challenge.pw_lostpart_k12_grids_refused w K mg base 5 f_Grid "binary" (spBin f_Grid f_BadBase f_BadGrid 2) := ⟨_, _, _, _, _, Rd_Grid, Cm_Grid_binary, ok_bin F_Grid_binary GC.c0, b_Grid_binary⟩
  have S_dec : CalS PySem.Challenge.pw_lostpart_k12_grids_refused w K mg base 5 f_Grid "decimal" (spBin f_Grid f_BadBase f_BadGrid 10) := ⟨_, _, _, _, _, Rd_Grid, Cm_Grid_decimal, ok_dec F_Grid_decimal GC.c0, b_Grid_decimal⟩
  have O_eq := CalM.of (P := PySem.Challenge.pw_lostpart_k12_grids_refused) (w := w) (base := base) Me_Grid___eq__ (ok_geq F_Grid___eq__ B GT NI_Grid) b_Grid___eq__
  have C_gmade := Cal.of (ok_gmade F__law_grid_made GC) g__law_grid_made k__law_grid_made b__law_grid_made
  have C_due := Cal.of (ok_due (P := PySem.Challenge.pw_lostpart_k12_grids_refused) (w := w) (base := base) F__law_due) g__law_due k__law_due b__law_due
  have T : Errs PySem.Challenge.pw_lostpart_k12_grids_refused K mg f_BadBase f_BadGrid f_LostError := ⟨E_BadBase, E_BadGrid, g_LostError, m_BadBase_LostError, m_BadGrid_LostError, j_BadBase_BadBase, j_BadBase_ValueError, j_BadBase_BadGrid, j_BadGrid_BadBase, j_BadGrid_BadGrid, j_BadGrid_ValueError, n_base_BadBase, n_what_BadGrid⟩
  have C_out := Cal.of (ok_out F__law_outcome B GT T GO S_bin S_dec) g__law_outcome k__law_outcome b__law_outcome
  have C_sgn := Cal.of (ok_sgnM F__law_signed C_draw) g__law_signed k__law_signed b__law_signed
  have C_bdr := Cal.of (ok_bdr F__law_border C_draw C_sgn) g__law_border k__law_border b__law_border
  have C_any := Cal.of (ok_any F__law_any C_draw C_base C_bdr) g__law_any k__law_any b__law_any
  have C_chg := Cal.of (ok_chg F__law_changed B C_draw) g__law_changed k__law_changed b__law_changed
  have C_eqs := Cal.of (ok_eqs F__law_equals GT NB_Grid hne_Grid C_gridl C_gmade C_chg O_eq C_eq) g__law_equals k__law_equals b__law_equals
  exact ok_law F_law B GT C_src C_draw C_base C_sgn C_any C_out C_due C_eqs C_eq2
end Law
open PySem PySem.W PyProof.Rows
set_option maxRecDepth 100000 in
set_option maxHeartbeats 0 in
theorem PySem.Challenge.cw_lostpart_k12_grids_refused_holds : PySem.Challenge.rw_lostpart_k12_grids_refused.Holds := by
  w_on; o_law; k_head; (case hw => w_witness2)
  k_fill
  refine L2.walk_of (l := PySem.Challenge.rw_lostpart_k12_grids_refused) (n := 63) (k := 7) (x := "script") (CX := fun w => L2N.CX PySem.Challenge.pw_lostpart_k12_grids_refused w) (sp := fun w => L2.spLaw _) rfl (by decide) rfl ⟨rfl, by decide, by decide⟩ (fun w h Y => PySem.W.kIn_of Y) ?F (fun _ _ a ns hl _ hS => ⟨a, ns, rfl, hS, hl, fun _ => rfl⟩) (fun _ _ _ _ _ z => L2.cxn_no (fun _ _ _ z => z) z)
  case F =>
    intro w mg fa h KX G hmg
    refine' Law.all_mk KX G hmg ?a_Grid ?pg_Grid ?hd_Grid ?po_Grid ?sa_Grid ?ha_Grid ?hm_Grid ?kc_Grid ?mk_Grid ?ii_Grid ?fi_Grid ?ty_Grid ?rd_Grid ?rg_Grid ?cv_LEAST_Grid ?cr_LEAST_Grid ?cv_MOST_Grid ?cr_MOST_Grid ?cat_Grid_binary ?crc_Grid_binary ?cfn_Grid_binary ?cat_Grid_decimal ?crc_Grid_decimal ?cfn_Grid_decimal ?nb_Grid_int ?ni_Grid_int ?nb_Grid_bool ?ni_Grid_bool ?nb_Grid_str ?ni_Grid_str ?nb_Grid_list ?ni_Grid_list ?nb_Grid_tuple ?ni_Grid_tuple ?nb_Grid_NoneType ?ni_Grid_NoneType ?hne_Grid ?n_base_Grid ?n_precision_Grid ?n_bottom_Grid ?n_top_Grid ?at___eq___Grid ?if___eq___Grid ?l_Grid___init__ ?kd0_Grid___init__ ?kr0_Grid___init__ ?kd1_Grid___init__ ?kr1_Grid___init__ ?c_Grid___init__ ?k_Grid___init__ ?l_Grid___eq__ ?c_Grid___eq__ ?k_Grid___eq__ ?l_Grid_binary ?c_Grid_binary ?k_Grid_binary ?l_Grid_decimal ?c_Grid_decimal ?k_Grid_decimal ?a_check_base ?l_check_base ?c_check_base ?k_check_base ?a__law_source ?l__law_source ?c__law_source ?k__law_source ?a__law_draw ?l__law_draw ?c__law_draw ?k__law_draw ?a__law_base ?l__law_base ?c__law_base ?k__law_base ?a__law_precision ?l__law_precision ?c__law_precision ?k__law_precision ?a__law_small ?l__law_small ?c__law_small ?k__law_small ?a__law_equal ?l__law_equal ?c__law_equal ?k__law_equal ?a__law_grid ?l__law_grid ?c__law_grid ?k__law_grid ?a__law_grid_made ?l__law_grid_made ?c__law_grid_made ?k__law_grid_made ?a__law_signed ?l__law_signed ?c__law_signed ?k__law_signed ?a__law_border ?l__law_border ?c__law_border ?k__law_border ?a__law_any ?l__law_any ?c__law_any ?k__law_any ?a__law_due ?l__law_due ?c__law_due ?k__law_due ?a__law_outcome ?l__law_outcome ?c__law_outcome ?k__law_outcome ?a__law_changed ?l__law_changed ?c__law_changed ?k__law_changed ?a__law_equals ?l__law_equals ?c__law_equals ?k__law_equals ?a_law ?l_law ?c_law ?k_law ?a_LostError ?z_len ?z_int ?z_abs ?z_isi ?z_range ?z_boo ?z_str ?z_lst ?z_tup ?z_max ?z_min ?z_zip ?z_srt ?z_rev ?z_dm ?z_enu ?z_sum ?z_ve ?x_hn ?x_ht ?x_op ?x_su ?a_BadBase ?x_BadBase ?rv_BadBase ?sa_BadBase ?ga_BadBase ?gg_BadBase ?ha_BadBase ?hm_BadBase ?ms_BadBase ?eC_BadBase ?sV_BadBase ?tC_BadBase ?kC_BadBase ?hd_BadBase ?ii_BadBase ?ti_BadBase ?li_BadBase ?ci_BadBase ?lc_BadBase ?v2_BadBase ?fe_BadBase ?lk_BadBase ?su_BadBase ?n_base_BadBase ?a_BadGrid ?x_BadGrid ?rv_BadGrid ?sa_BadGrid ?ga_BadGrid ?gg_BadGrid ?ha_BadGrid ?hm_BadGrid ?ms_BadGrid ?eC_BadGrid ?sV_BadGrid ?tC_BadGrid ?kC_BadGrid ?hd_BadGrid ?ii_BadGrid ?ti_BadGrid ?li_BadGrid ?ci_BadGrid ?lc_BadGrid ?v2_BadGrid ?fe_BadGrid ?lk_BadGrid ?su_BadGrid ?n_what_BadGrid ?m_BadBase_LostError ?m_BadGrid_LostError ?j_BadBase_BadBase ?j_BadBase_ValueError ?j_BadBase_BadGrid ?j_BadGrid_BadBase ?j_BadGrid_BadGrid ?j_BadGrid_ValueError
    (case a_Grid => k_is)
    (case pg_Grid => k_is)
    (case hd_Grid => k_is)
    (case po_Grid => k_is)
    (case sa_Grid => k_is)
    (case ha_Grid => k_is)
    (case hm_Grid => k_is)
    (case kc_Grid => k_is)
    (case mk_Grid => k_is)
    (case ii_Grid => k_is)
    (case fi_Grid => k_is)
    (case ty_Grid => k_is)
    (case rd_Grid => k_is)
    (case rg_Grid => k_is)
    (case cv_LEAST_Grid => k_is)
    (case cr_LEAST_Grid => first | exact rfl | exact ⟨_, rfl⟩)
    (case cv_MOST_Grid => k_is)
    (case cr_MOST_Grid => first | exact rfl | exact ⟨_, rfl⟩)
    (case cat_Grid_binary => k_is)
    (case crc_Grid_binary => k_is)
    (case cfn_Grid_binary => k_is)
    (case cat_Grid_decimal => k_is)
    (case crc_Grid_decimal => k_is)
    (case cfn_Grid_decimal => k_is)
    (case nb_Grid_int => k_is)
    (case ni_Grid_int => kit_is)
    (case nb_Grid_bool => k_is)
    (case ni_Grid_bool => kit_is)
    (case nb_Grid_str => k_is)
    (case ni_Grid_str => kit_is)
    (case nb_Grid_list => k_is)
    (case ni_Grid_list => kit_is)
    (case nb_Grid_tuple => k_is)
    (case ni_Grid_tuple => kit_is)
    (case nb_Grid_NoneType => k_is)
    (case ni_Grid_NoneType => kit_is)
    (case hne_Grid => k_is)
    (case n_base_Grid => k_is)
    (case n_precision_Grid => k_is)
    (case n_bottom_Grid => k_is)
    (case n_top_Grid => k_is)
    (case at___eq___Grid => k_is)
    (case if___eq___Grid => k_is)
    (case l_Grid___init__ => k_is)
    (case kd0_Grid___init__ => k_is)
    (case kr0_Grid___init__ => first | exact rfl | exact ⟨_, rfl⟩)
    (case kd1_Grid___init__ => k_is)
    (case kr1_Grid___init__ => first | exact rfl | exact ⟨_, rfl⟩)
    (case c_Grid___init__ => k_is)
    (case k_Grid___init__ => k_is)
    (case l_Grid___eq__ => k_is)
    (case c_Grid___eq__ => k_is)
    (case k_Grid___eq__ => k_is)
    (case l_Grid_binary => k_is)
    (case c_Grid_binary => k_is)
    (case k_Grid_binary => k_is)
    (case l_Grid_decimal => k_is)
    (case c_Grid_decimal => k_is)
    (case k_Grid_decimal => k_is)
    (case a_check_base => k_is)
    (case l_check_base => k_is)
    (case c_check_base => k_is)
    (case k_check_base => k_is)
    (case a__law_source => k_is)
    (case l__law_source => k_is)
    (case c__law_source => k_is)
    (case k__law_source => k_is)
    (case a__law_draw => k_is)
    (case l__law_draw => k_is)
    (case c__law_draw => k_is)
    (case k__law_draw => k_is)
    (case a__law_base => k_is)
    (case l__law_base => k_is)
    (case c__law_base => k_is)
    (case k__law_base => k_is)
    (case a__law_precision => k_is)
    (case l__law_precision => k_is)
    (case c__law_precision => k_is)
    (case k__law_precision => k_is)
    (case a__law_small => k_is)
    (case l__law_small => k_is)
    (case c__law_small => k_is)
    (case k__law_small => k_is)
    (case a__law_equal => k_is)
    (case l__law_equal => k_is)
    (case c__law_equal => k_is)
    (case k__law_equal => k_is)
    (case a__law_grid => k_is)
    (case l__law_grid => k_is)
    (case c__law_grid => k_is)
    (case k__law_grid => k_is)
    (case a__law_grid_made => k_is)
    (case l__law_grid_made => k_is)
    (case c__law_grid_made => k_is)
    (case k__law_grid_made => k_is)
    (case a__law_signed => k_is)
    (case l__law_signed => k_is)
    (case c__law_signed => k_is)
    (case k__law_signed => k_is)
    (case a__law_border => k_is)
    (case l__law_border => k_is)
    (case c__law_border => k_is)
    (case k__law_border => k_is)
    (case a__law_any => k_is)
    (case l__law_any => k_is)
    (case c__law_any => k_is)
    (case k__law_any => k_is)
    (case a__law_due => k_is)
    (case l__law_due => k_is)
    (case c__law_due => k_is)
    (case k__law_due => k_is)
    (case a__law_outcome => k_is)
    (case l__law_outcome => k_is)
    (case c__law_outcome => k_is)
    (case k__law_outcome => k_is)
    (case a__law_changed => k_is)
    (case l__law_changed => k_is)
    (case c__law_changed => k_is)
    (case k__law_changed => k_is)
    (case a__law_equals => k_is)
    (case l__law_equals => k_is)
    (case c__law_equals => k_is)
    (case k__law_equals => k_is)
    (case a_law => k_is)
    (case l_law => k_is)
    (case c_law => k_is)
    (case k_law => k_is)
    (case a_LostError => k_is)
    (case z_len => k_is)
    (case z_int => k_is)
    (case z_abs => k_is)
    (case z_isi => k_is)
    (case z_range => k_is)
    (case z_boo => k_is)
    (case z_str => k_is)
    (case z_lst => k_is)
    (case z_tup => k_is)
    (case z_max => k_is)
    (case z_min => k_is)
    (case z_zip => k_is)
    (case z_srt => k_is)
    (case z_rev => k_is)
    (case z_dm => k_is)
    (case z_enu => k_is)
    (case z_sum => k_is)
    (case z_ve => k_is)
    (case x_hn => k_is)
    (case x_ht => k_is)
    (case x_op => k_is)
    (case x_su => k_is)
    (case a_BadBase => k_is)
    (case x_BadBase => k_is)
    (case rv_BadBase => decide +kernel)
    (case sa_BadBase => k_is)
    (case ga_BadBase => k_is)
    (case gg_BadBase => k_is)
    (case ha_BadBase => k_is)
    (case hm_BadBase => k_is)
    (case ms_BadBase => k_is)
    (case eC_BadBase => k_is)
    (case sV_BadBase => k_is)
    (case tC_BadBase => k_is)
    (case kC_BadBase => k_is)
    (case hd_BadBase => k_is)
    (case ii_BadBase => k_is)
    (case ti_BadBase => k_is)
    (case li_BadBase => k_is)
    (case ci_BadBase => k_is)
    (case lc_BadBase => k_is)
    (case v2_BadBase => rfl)
    (case fe_BadBase => decide +kernel)
    (case lk_BadBase => k_is)
    (case su_BadBase => ks_is)
    (case n_base_BadBase => k_is)
    (case a_BadGrid => k_is)
    (case x_BadGrid => k_is)
    (case rv_BadGrid => decide +kernel)
    (case sa_BadGrid => k_is)
    (case ga_BadGrid => k_is)
    (case gg_BadGrid => k_is)
    (case ha_BadGrid => k_is)
    (case hm_BadGrid => k_is)
    (case ms_BadGrid => k_is)
    (case eC_BadGrid => k_is)
    (case sV_BadGrid => k_is)
    (case tC_BadGrid => k_is)
    (case kC_BadGrid => k_is)
    (case hd_BadGrid => k_is)
    (case ii_BadGrid => k_is)
    (case ti_BadGrid => k_is)
    (case li_BadGrid => k_is)
    (case ci_BadGrid => k_is)
    (case lc_BadGrid => k_is)
    (case v2_BadGrid => rfl)
    (case fe_BadGrid => decide +kernel)
    (case lk_BadGrid => k_is)
    (case su_BadGrid => ks_is)
    (case n_what_BadGrid => k_is)
    (case m_BadBase_LostError => kts_exm)
    (case m_BadGrid_LostError => kts_exm)
    (case j_BadBase_BadBase => kit_is)
    (case j_BadBase_ValueError => kit_is)
    (case j_BadBase_BadGrid => kit_is)
    (case j_BadGrid_BadBase => kit_is)
    (case j_BadGrid_BadGrid => kit_is)
    (case j_BadGrid_ValueError => kit_is)
