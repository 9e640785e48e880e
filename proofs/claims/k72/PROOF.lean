import PyProof.Rows.All
import Wide.All
import OpenK.AllK
import Wide.FinOn
import KE.KExcSuper
import KE.KExcIs
import HandS.ForMost
import HandS.ForExc
import HandS.ExcInit
import HandS.ExcCtx
import HandS.ExcIs
import HandS.ExcField
import HandS.HotCalls
import HandS.IsInst
import HandS.Property
import HandS.Flow
import HandS.Defaults
import HandS.Wide
import HandS.Comp
import HandS.Text
import HandS.StrMore
import HandS.ReplaceLit
import HandS.Words
import KE.RegKSuper
import KE.RegKIsAll
import KE.RegKTryMore
import HandS.RevRange
import HandS.Conv
import HandS.SlotsOwn
import HandS.ClsMeth
import HandS.MakeKwOnly
import HandS.NoneIn
import KE.KOpsOwn
import HandS.Deep
import PySem.Challenge.RW_lostpart_k72_rank_and_number
set_option Elab.async false
set_option linter.all false
set_option maxRecDepth 100000
set_option maxHeartbeats 4000000
/-! Own exceptions whose __init__ says super().__init__(text) and stores one or two fields; the class stands under one more own class over ValueError. -/
namespace PySem
namespace LX
open PySem.W PySem.Calls PyProof.Rows PySem.HandSPX
/-- the text of such an __init__ -/
def supS (m : Str) (j : Nat) (a1 a2 a3 a4 a5 a6 : Pos) : Stmt :=
  .Expr (.Call (.Attribute (.Call (.Name "super" a1) [] [] a2) "__init__" a3) [.Constant (.str m) j a4] [] a5) a6
def fldS (f : Str) (q1 q2 q3 q4 : Pos) : Stmt := .Assign [.Attribute (.Name "self" q1) f q2] (.Name f q3) q4
/-- how that call is evaluated (by rfl, where the places are written) -/
def SupEq (m : Str) (j : Nat) (a1 a2 a3 a4 a5 : Pos) : Prop := ∀ env : Env, eval (.Call (.Attribute (.Call (.Name "super" a1) [] [] a2) "__init__" a3) [.Constant (.str m) j a4] [] a5) env = (do
      let ov ← attributeBase (.Call (.Name "super" a1) [] [] a2) "__init__" env (eval (.Call (.Name "super" a1) [] [] a2) env)
      standAt a3.atName
      let (f, first) ← holding [ov] (getMethod ov "__init__" (do return (← importBound (.Call (.Name "super" a1) [] [] a2) env).getD true))
      callWith a5 f first (backTo a5 (starEach [.Constant (.str m) j a4] env)) [])
/-- what the written part says of such a class at C -/
structure ExcT (K : Frag) (C : Addr) : Prop where
  ox : L2.OexC K C
  ga : findIn K (.ref C) "__getattribute__" = some (some (.builtin "BaseException.__getattribute__"))
  gg : findIn K (.ref C) "__getattr__" = some none
  hd : hasDictIn K C = true
  ha : findIn K (.ref C) "__class__" = some (some (.builtin "object.__class__"))
  hn : specialIn K (.builtin "object.__class__") "__get__" = some (some (.builtin "getset_descriptor.__get__"))
  ht : takesIn K (.builtin "object.__class__") = some true
  hm : mroIn K C (.type "object") = some true
/-- what it says of its __init__ at fI, the class's cell at cc, the code at cda; the def's st -/
structure InitT (P : Program) (K : Frag) (mg : Str → Option Value) (C fI : Addr) (qual : Str) (pa : Arguments) (bd : List Stmt) (sc : Scope) : Prop where
  iC : findIn K (.ref C) "__init__" = some (some (.ref fI))
  tC : typeIn K (.ref fI) = some (.type "function")
  fn : ∃ (oc : Value) (od : Option Addr) (kV doc pm : Value) (an : Option Addr) (ct : Value) (osl : Array (Option Value)) (cda cc : Addr),
    K.lookup fI = some ⟨oc, od, .func (ksFn "__init__" qual pa bd sc .none kV doc pm an (.ref cda) ct cc), osl⟩ ∧ codeIn K (.ref cda) qual = true ∧
    (∃ (ccl : Value) (cdd : Option Addr) (vs : Array Value) (ccs : Array (Option Value)) (file : Str) (tf : Tok), K.lookup cda = some ⟨ccl, cdd, .fields vs, ccs⟩ ∧ vs[2]? = some (.str file tf) ∧ ((P.main.file : Str) == file) = true) ∧
    ∃ (cl : Value) (cld : Option Addr) (csl : Array (Option Value)), K.lookup cc = some ⟨cl, cld, .cell (some (.ref C)), csl⟩
  sup : ks_superIn K C C "__init__" = some (some (.builtin "ValueError.__init__"))
  mro : mroIn K C (.ref C) = some true
  subV : subIn K (.ref C) (.type "ValueError") = some true
  opq : nsIn K cStatics "thirdparty.any" = some none
  gs : mg "super" = none
  top : (P.main.scope.names.lookup ("super" : Str)).isSome = false

section
variable {prog : Program} {w : World} {A : Around} {E : Value → Shared → Prop} {s : Shared} {K : Frag} {mg : Str → Option Value} {C fI : Addr} {qual : Str} {pa : Arguments} {bd : List Stmt} {sc : Scope}
/-- super().__init__(m): the exception's record is laid anew, the rest stands -/
theorem sup_stmt {body : List Stmt} {m : Str} {j : Nat} {a1 a2 a3 a4 a5 a6 : Pos} {cda cc : Addr} {L : Addr} {q : Str} {scope : Scope} {mL mb : Str → Option Value} {fd : FuncData} {oc : Value} {od : Option Addr} {osl : Array (Option Value)} {ar : Arg} {vs : Array Value} {file : Str} {tf : Tok} {ccl cl : Value} {cdd cld : Option Addr} {ccs csl : Array (Option Value)} {x t0 : Addr}
    {Q : Flow → Shared → Prop} (T : L2.OexC K C) (X : K.In s.heap) (hns : s.heap.Ns L mL) (hg : s.heap.Ns mainGlobals mg) (hb : s.heap.Ns builtinsNs mb) (hbb : mb "super" = some (.type "super"))
    (hf : K.lookup fI = some ⟨oc, od, .func fd, osl⟩) (hp : (fd.params.posonlyargs ++ fd.params.args).head? = some ar) (hv : mL ar.arg = some (.ref x)) (hx : s.heap.get? x = some (excO C t0))
    (hcode : K.lookup cda = some ⟨ccl, cdd, .fields vs, ccs⟩) (hvs : vs[2]? = some (.str file tf)) (hfile : ((prog.main.file : Str) == file) = true)
    (hcell : K.lookup cc = some ⟨cl, cld, .cell (some (.ref C)), csl⟩) (hmro : mroIn K C (.ref C) = some true) (hsup : ks_superIn K C C "__init__" = some (some (.builtin "ValueError.__init__"))) (hsubV : subIn K (.ref C) (.type "ValueError") = some true) (hop : nsIn K cStatics "thirdparty.any" = some none)
    (gs : mg "super" = none) (htop : (prog.main.scope.names.lookup ("super" : Str)).isSome = false)
    (hks : scope.names.lookup ("super" : Str) = some .globalImplicit) (hkc : scope.names.lookup ("__class__" : Str) = some .free) (hka : scope.names.lookup ar.arg = some .local) (hk : scope.kind = .function) (hxL : x ≠ L)
    (se : SupEq m j a1 a2 a3 a4 a5)
    (h : ∀ h' tk t1, (∀ b o, b ≠ x → s.heap.get? b = some o → h'.get? b = some o) → h'.get? x = some (excO C t1) → Q .next { s with heap := h', toks := tk }) :
    wpAt (model prog w) A (.func body (ksEnv q scope L fI (.ref cda) cc)) (exec (supS m j a1 a2 a3 a4 a5 a6) (ksEnv q scope L fI (.ref cda) cc)) Q E s := by
  obtain ⟨nm, qn, N, bs, bm, sn, sub, ab, col, dd, k0, k1, k2, k3, k5, hC, hbm⟩ := T.cls
  have hcl : clsIn K C = some { name := nm, bases := bs, mro := .ref C :: bm, ns := N, qualname := qn, hasDict := true, slotNames := sn, subclasses := sub, abstract := ab, collection := col, hasDel := false } := by unfold clsIn; rw [hC] <;> rfl
  refine ks_wpAt_Expr_any (ks_wpAt_MethodCall ?_ (se _)) (by unfold interactive; rw [show (ksEnv q scope L fI (.ref cda) cc).scope.kind = .function from hk]; rfl)
  obtain ⟨hh, g, d, t, os⟩ := s
  obtain ⟨oD, hD1, hD2⟩ : ∃ oD, hh.get? C = some oD ∧ oD.data = .cls { name := nm, bases := bs, mro := .ref C :: bm, ns := N, qualname := qn, hasDict := true, slotNames := sn, subclasses := sub, abstract := ab, collection := col, hasDel := false } := ⟨_, X _ _ hC, rfl⟩
  refine ks_wpAt_super_base (env := ksEnv q scope L fI (.ref cda) cc) hks hkc (by decide) rfl (X _ _ hf) rfl hp rfl (X _ _ hcode) rfl hvs hfile htop ?_
  refine ks_loadName_global hk hks (loadGlobal_builtin (env := ksEnv q scope L fI (.ref cda) cc) hg gs hb hbb ⟨rfl, ?_⟩)
  refine wpAny_loadName_free hk hkc rfl ⟨_, X _ _ hcell, rfl⟩ ?_
  refine wpAny_loadName_local hk hka hns hv ?_
  refine ks_wpAny_isType_cls hD1 hD2 ⟨rfl, ?_⟩
  refine ks_wpAny_call_super hD1 hD2 hx rfl (fun c e => by cases e) (looks_mroIn X hmro) (fun h1 e1 k1 => ?_)
  have X1 : K.In h1 := X.keeps k1
  have I1 : InstAt h1 x (excO C t0) C none := ⟨k1 _ _ hx, rfl, rfl, trivial⟩
  have hI : Looks (model prog w) h1 (isInstance (.ref x) (.type "ValueError")) true := I1.type.andThen (looks_subIn X1 hsubV)
  have hm' : alongIn K "__init__" ((((.ref C :: bm : List Value)).dropWhile (· != .ref C)).drop 1) = some (some (.builtin "ValueError.__init__")) := by
    have q1 := hsup
    unfold ks_superIn at q1
    rw [hcl] at q1
    exact q1
  refine kxs_getMethod kxs_ValueError e1 (looks_opaque X1 hop) (l₀ := .ref C :: bm) (fun A Q E s k q => wpAny_bind ((looks_clsIn X1 hcl) A _ E s k (wpAny_pure q))) rfl X1 hm' hI (ks_ne X1 I1 hcl) (by decide) ?_
  -- the call
  have e2 : (h1.push (kxs_mw "ValueError.__init__" x)).get? h1.objs.size = some (kxs_mw "ValueError.__init__" x) := Heap.get?_push_at rfl rfl
  have k2' : ∀ b o, h1.get? b = some o → (h1.push (kxs_mw "ValueError.__init__" x)).get? b = some o := fun b o e => Heap.get?_push_of_some _ e
  have hx2 := k2' _ _ (k1 _ _ hx)
  have hC2 := k2' _ _ (k1 _ _ (X _ _ hC))
  show wpAny _ _ (callWith a5 (.ref h1.objs.size) [] (backTo a5 (starEach [.Constant (.str m) j a4] _)) []) _ _ _
  refine kxs_callWith (i := "ValueError.__init__") (x := x) (by rfl) ?_
  refine evalArgs_plain (spliced_cons ?_)
  show wpAny _ _ (eval (.Constant (.str m) j a4) _) _ _ _
  refine Constant_str ?_
  refine spliced_nil ⟨e2, ?_⟩
  show wpAny _ _ (call (.ref h1.objs.size) [Value.str m (t + 1)]) _ _ _
  refine wpAny_call (codeAny_of_tree ?_)
  show wpAny _ _ (callAny (.ref h1.objs.size) ⟨[Value.str m (t + 1)], []⟩) _ _ _
  simp only [callAny]
  refine wpAny_bind (wpAny_load e2 ?_)
  simp only [kxs_mw, show (Value.type "method-wrapper" == Value.type "method" || Value.type "method-wrapper" == Value.type "builtin_function_or_method" || Value.type "method-wrapper" == Value.type "method-wrapper") = true by decide, if_true]
  refine KFB.if_so (by decide) ?_
  refine wpAny_bind (check_bound_init F.excBase_ValueError.toExcCallFacts hC2 hx2 rfl ?_)
  refine wpAny_bind (wpAny_pure (wpAny_pure ?_))
  refine ⟨plainId_quiet F.excBase_ValueError.init.plain _, codeAny_builtin F.excBase_ValueError.initEntry ?_⟩
  refine exc_init_tree (cls := .ref C) (t0 := t0) (dv := none) (c2 := .none) (c3 := .none) (b4 := .bool false) hx2 (by show 1 ≤ sizeLine; decide) fun h' k3 e3 _ => ?_
  refine h h' _ (h1.push (kxs_mw "ValueError.__init__" x)).objs.size (fun b o hb e => k3 b o hb (k2' _ _ (k1 _ _ e))) e3
end
/-- what the fields hold, the last one first -/
def nsOf : List (Str × Value) → Str → Option Value
  | [] => fun _ => none
  | (f, v) :: r => fun y => if y = f then some v else nsOf r y
/-- what such an __init__ leaves of a fresh exception at x -/
structure InitEnd (h h' : Heap) (x C dx t1 : Addr) (fs : List (Str × Value)) : Prop where
  keep : ∀ b o, b ≠ x → h.get? b = some o → h'.get? b = some o
  obj : h'.get? x = some { cls := .ref C, dict := some dx, data := .fields #[.ref t1, .none, .none, .none, .bool false, .none] }
  dbig : h.objs.size ≤ dx
  dne : dx ≠ x
  ns : h'.Ns1 dx (nsOf fs)
/-- the scope of such an __init__ -/
structure ScOk (sc : Scope) (nms : List Str) : Prop where
  ks : sc.names.lookup ("super" : Str) = some .globalImplicit
  kc : sc.names.lookup ("__class__" : Str) = some .free
  kd : sc.kind = .function
  co : sc.isCoroutine = false
  ge : sc.isGenerator = false
  ce : ∀ x ∈ sc.names, x.2 ≠ .cell
  lo : ∀ n ∈ ("self" : Str) :: nms, sc.names.lookup n = some .local
def BindOk (qual : Str) (pa : Arguments) (bd : List Stmt) (sc : Scope) (nms : List Str) : Prop :=
  ∀ (kV doc pm : Value) (an : Option Addr) (cdv ct : Value) (cc : Addr) (us : List Value), us.length = nms.length + 1 → bindArgs (ksFn "__init__" qual pa bd sc .none kV doc pm an cdv ct cc) ⟨us, []⟩ = pure ((("self" : Str) :: nms).zip us)
/-- such an __init__ runs -/
def InitRuns (prog : Program) (K : Frag) (mg : Str → Option Value) (C fI : Addr) (nms : List Str) : Prop :=
  ∀ (w : World) (A : Around) (s : Shared) (R : Result → Shared → Prop) (x t0 : Addr) (us : List Value) (mb : Str → Option Value), us.length = nms.length → K.In s.heap → s.heap.NoLimit → s.heap.Ns mainGlobals mg → s.heap.Ns builtinsNs mb → mb "super" = some (.type "super") →
    s.heap.get? x = some (excO C t0) → K.lookup x = none → A.depth < recursionLimit → (∀ h' tk dx t1, InitEnd s.heap h' x C dx t1 (nms.zip us).reverse → R (.ok (.ret .none)) { s with heap := h', toks := tk }) →
    codeAny (model prog w) A (.call (.ref fI) ⟨.ref x :: us, []⟩) R s
section
variable {prog : Program} {K : Frag} {mg : Str → Option Value} {C fI : Addr} {qual : Str} {pa : Arguments} {sc : Scope} {f g m : Str} {j : Nat} {a1 a2 a3 a4 a5 a6 q1 q2 q3 q4 r1 r2 r3 r4 : Pos} {ar : Arg}
theorem ldL {M : Model} {A : Around} {E : Value → Shared → Prop} {s : Shared} {env : Env} {m : Str → Option Value} {x : Str} {pos : Pos} {v : Value} {Q : Value → Shared → Prop} (hn : s.heap.Ns env.locals m) (hv : m x = some v) (h : Q v s)
    (hk : env.scope.kind = .function) (hl : env.kindOf x = some .local) (hd : (x == ("__debug__" : Str)) = false := by decide) : wpAny M A (eval (.Name x pos) env) Q E s := wpAny_Name (wpAny_loadName_local hk hl hn hv h) hd
theorem kept_but {K : Frag} {h h' : Heap} {x : Addr} (X : K.In h) (hx : K.lookup x = none) (k : ∀ b o, b ≠ x → h.get? b = some o → h'.get? b = some o) : K.In h' := fun a o e =>
  k a o (fun z => by rw [z, hx] at e; cases e) (X a o e)
theorem assign_attr {w : World} {A : Around} {E : Value → Shared → Prop} {s : Shared} {env : Env} {x : Addr} {v : Value} {mL : Str → Option Value} {Q : Flow → Shared → Prop} (hn : s.heap.Ns env.locals mL) (hf : mL f = some v) (hs : mL "self" = some (.ref x))
    (hk : env.scope.kind = .function) (h1 : env.kindOf f = some .local) (h2 : env.kindOf "self" = some .local) (hd : (f == ("__debug__" : Str)) = false) (hsw : swapsWith (.Name f q3) (some (.Attribute (.Name "self" q1) f q2)) q4.line env = pure false)
    (h : wpAny (model prog w) A (setAttr (.ref x) f v) (fun _ => Q .next) E s) : wpAny (model prog w) A (exec (fldS f q1 q2 q3 q4) env) Q E s := by
  refine plainObj_wpAny_Assign_Attribute ?_ hsw
  exact ldL hn hf (ldL hn hs h hk h2) hk h1 hd
theorem init1 (T : ExcT K C) (I : InitT prog K mg C fI qual pa [supS m j a1 a2 a3 a4 a5 a6, fldS f q1 q2 q3 q4] sc) (se : SupEq m j a1 a2 a3 a4 a5) (so : ScOk sc [f]) (bo : BindOk qual pa [supS m j a1 a2 a3 a4 a5 a6, fldS f q1 q2 q3 q4] sc [f])
    (hp : (pa.posonlyargs ++ pa.args).head? = some ar) (har : ar.arg = ("self" : Str)) (hfs : (f == ("self" : Str)) = false) (hfd : (f == ("__debug__" : Str)) = false) (hno : findIn K (.ref C) f = some none)
    (hsw : ∀ env : Env, swapsWith (.Name f q3) (some (.Attribute (.Name "self" q1) f q2)) q4.line env = pure false) : InitRuns prog K mg C fI [f] := by
  intro w A s R x t0 us mb hus X hlim hg hb hbb hx hnx hroom hq
  obtain ⟨v, rfl⟩ : ∃ v, us = [v] := by
    match us, hus with
    | [v], _ => exact ⟨v, rfl⟩
  obtain ⟨oc, od, kV, doc, pm, an, ct, osl, cda, cc, ho, hcd, ⟨ccl, cdd, vs, ccs, file, tf, hcode, hvs, hfile⟩, ⟨cl, cld, csl, hcell⟩⟩ := I.fn
  obtain ⟨nm, q, N, bs, bm, sn, sub, ab, col, dd, k0, k1, k2, k3, k5, hC, hbm⟩ := T.ox.cls
  have hcl : clsIn K C = some { name := nm, bases := bs, mro := .ref C :: bm, ns := N, qualname := q, hasDict := true, slotNames := sn, subclasses := sub, abstract := ab, collection := col, hasDel := false } := by unfold clsIn; rw [hC] <;> rfl
  refine ks_codeAny_call_defAt (fd := ksFn "__init__" qual pa [supS m j a1 a2 a3 a4 a5 a6, fldS f q1 q2 q3 q4] sc .none kV doc pm an (.ref cda) ct cc) (body := [supS m j a1 a2 a3 a4 a5 a6, fldS f q1 q2 q3 q4]) (binds := [("self", .ref x), (f, v)]) hroom (X _ _ ho) rfl hlim (codeRec_of X hcd) rfl (BindsTo.of_eq (bo _ _ _ _ _ _ _ [.ref x, v] rfl)) so.ce (fun y hy => ?_) (fun h₁ hns k₁ => ?_) so.co so.ge so.kd
  · have hy' : y = (("self" : Str), Value.ref x) ∨ y = (f, v) := by simpa using hy
    rcases hy' with rfl | rfl
    · exact so.lo _ (by simp)
    · exact so.lo _ (by simp)
  · have hxL : s.heap.objs.size ≠ x := Nat.ne_of_gt (Heap.lt_size hx)
    have m1 : (fun y : Str => List.lookup y (List.reverse [(("self" : Str), Value.ref x), (f, v)])) f = some v := by simp [List.lookup]
    have hsf : (("self" : Str) == f) = false := by
      rw [beq_eq_false_iff_ne] at hfs ⊢
      exact fun z => hfs z.symm
    have m2 : (fun y : Str => List.lookup y (List.reverse [(("self" : Str), Value.ref x), (f, v)])) "self" = some (.ref x) := by simp [List.lookup, hsf]
    have X₁ : K.In h₁ := X.keeps k₁
    show wpAt (model prog w) (A.deeper (ksEnv qual sc s.heap.objs.size fI (.ref cda) cc)) (.func _ (ksEnv qual sc s.heap.objs.size fI (.ref cda) cc)) (execs _ (ksEnv qual sc s.heap.objs.size fI (.ref cda) cc)) _ _ _
    refine ks_wpAt_execs_cons ?_
    refine sup_stmt (mg := mg) (mb := mb) (fd := ksFn "__init__" qual pa [supS m j a1 a2 a3 a4 a5 a6, fldS f q1 q2 q3 q4] sc .none kV doc pm an (.ref cda) ct cc) T.ox X₁ hns (hg.keeps k₁) (hb.keeps k₁) hbb ho hp (by rw [har]; exact m2) (k₁ _ _ hx) hcode hvs hfile hcell I.mro I.sup I.subV I.opq I.gs I.top so.ks so.kc (by rw [har]; exact so.lo _ (by simp)) so.kd (Ne.symm hxL) se fun h₂ tk₂ t1 k₂ hx₂ => ?_
    have hns₂ : h₂.Ns s.heap.objs.size (fun y => List.lookup y (List.reverse [(("self" : Str), Value.ref x), (f, v)])) := by
      obtain ⟨oL, es, ep, hL, r⟩ := hns
      exact ⟨oL, es, ep, k₂ _ _ hxL hL, r⟩
    have X₂ : K.In h₂ := kept_but X₁ hnx k₂
    refine wpAt_of_wpAny (wpAny_execs_cons (assign_attr (x := x) (v := v) hns₂ m1 m2 so.kd (so.lo _ (by simp)) (so.lo _ (by simp)) hfd (hsw _) ?_))
    refine set_plain X₂ (ox := excO C t1) (od := none) ⟨hx₂, rfl, rfl, trivial⟩ T.ox.sa ?_
    refine exc_osa X₂ hx₂ hcl (show refsVE (.ref C :: bm) = true from hbm) rfl hno (fun h₃ tk₃ dx k₃ dn dne hx₃ hn₃ => ?_)
    have z2 : s.heap.objs.size < h₂.objs.size := hns₂.lt
    exact wpAny_execs_nil (hq h₃ tk₃ dx t1 ⟨fun b o hb e => k₃ b o hb (k₂ b o hb (k₁ b o e)), hx₃, Nat.le_of_lt (Nat.lt_of_lt_of_le z2 dn), dne, hn₃⟩)
theorem init2 (T : ExcT K C) (I : InitT prog K mg C fI qual pa [supS m j a1 a2 a3 a4 a5 a6, fldS f q1 q2 q3 q4, fldS g r1 r2 r3 r4] sc) (se : SupEq m j a1 a2 a3 a4 a5) (so : ScOk sc [f, g]) (bo : BindOk qual pa [supS m j a1 a2 a3 a4 a5 a6, fldS f q1 q2 q3 q4, fldS g r1 r2 r3 r4] sc [f, g])
    (hp : (pa.posonlyargs ++ pa.args).head? = some ar) (har : ar.arg = ("self" : Str)) (hfs : (f == ("self" : Str)) = false) (hgs : (g == ("self" : Str)) = false) (hfg : (f == g) = false) (hfd : (f == ("__debug__" : Str)) = false) (hgd : (g == ("__debug__" : Str)) = false)
    (hno : findIn K (.ref C) f = some none) (hno2 : findIn K (.ref C) g = some none)
    (hsw : ∀ env : Env, swapsWith (.Name f q3) (some (.Attribute (.Name "self" q1) f q2)) q4.line env = pure false) (hsw2 : ∀ env : Env, swapsWith (.Name g r3) (some (.Attribute (.Name "self" r1) g r2)) r4.line env = pure false) : InitRuns prog K mg C fI [f, g] := by
  intro w A s R x t0 us mb hus X hlim hg hb hbb hx hnx hroom hq
  obtain ⟨v, u, rfl⟩ : ∃ v u, us = [v, u] := by
    match us, hus with
    | [v, u], _ => exact ⟨v, u, rfl⟩
  obtain ⟨oc, od, kV, doc, pm, an, ct, osl, cda, cc, ho, hcd, ⟨ccl, cdd, vs, ccs, file, tf, hcode, hvs, hfile⟩, ⟨cl, cld, csl, hcell⟩⟩ := I.fn
  obtain ⟨nm, q, N, bs, bm, sn, sub, ab, col, dd, k0, k1, k2, k3, k5, hC, hbm⟩ := T.ox.cls
  have hcl : clsIn K C = some { name := nm, bases := bs, mro := .ref C :: bm, ns := N, qualname := q, hasDict := true, slotNames := sn, subclasses := sub, abstract := ab, collection := col, hasDel := false } := by unfold clsIn; rw [hC] <;> rfl
  refine ks_codeAny_call_defAt (fd := ksFn "__init__" qual pa [supS m j a1 a2 a3 a4 a5 a6, fldS f q1 q2 q3 q4, fldS g r1 r2 r3 r4] sc .none kV doc pm an (.ref cda) ct cc) (body := [supS m j a1 a2 a3 a4 a5 a6, fldS f q1 q2 q3 q4, fldS g r1 r2 r3 r4]) (binds := [("self", .ref x), (f, v), (g, u)]) hroom (X _ _ ho) rfl hlim (codeRec_of X hcd) rfl (BindsTo.of_eq (bo _ _ _ _ _ _ _ [.ref x, v, u] rfl)) so.ce (fun y hy => ?_) (fun h₁ hns k₁ => ?_) so.co so.ge so.kd
  · have hy' : y = (("self" : Str), Value.ref x) ∨ y = (f, v) ∨ y = (g, u) := by simpa using hy
    rcases hy' with rfl | rfl | rfl
    · exact so.lo _ (by simp)
    · exact so.lo _ (by simp)
    · exact so.lo _ (by simp)
  · have hxL : s.heap.objs.size ≠ x := Nat.ne_of_gt (Heap.lt_size hx)
    have hsf : (("self" : Str) == f) = false := by
      rw [beq_eq_false_iff_ne] at hfs ⊢
      exact fun z => hfs z.symm
    have hsg : (("self" : Str) == g) = false := by
      rw [beq_eq_false_iff_ne] at hgs ⊢
      exact fun z => hgs z.symm
    have m1 : (fun y : Str => List.lookup y (List.reverse [(("self" : Str), Value.ref x), (f, v), (g, u)])) f = some v := by simp [List.lookup, hfg]
    have m3 : (fun y : Str => List.lookup y (List.reverse [(("self" : Str), Value.ref x), (f, v), (g, u)])) g = some u := by simp [List.lookup]
    have m2 : (fun y : Str => List.lookup y (List.reverse [(("self" : Str), Value.ref x), (f, v), (g, u)])) "self" = some (.ref x) := by simp [List.lookup, hsf, hsg]
    have X₁ : K.In h₁ := X.keeps k₁
    show wpAt (model prog w) (A.deeper (ksEnv qual sc s.heap.objs.size fI (.ref cda) cc)) (.func _ (ksEnv qual sc s.heap.objs.size fI (.ref cda) cc)) (execs _ (ksEnv qual sc s.heap.objs.size fI (.ref cda) cc)) _ _ _
    refine ks_wpAt_execs_cons ?_
    refine sup_stmt (mg := mg) (mb := mb) (fd := ksFn "__init__" qual pa [supS m j a1 a2 a3 a4 a5 a6, fldS f q1 q2 q3 q4, fldS g r1 r2 r3 r4] sc .none kV doc pm an (.ref cda) ct cc) T.ox X₁ hns (hg.keeps k₁) (hb.keeps k₁) hbb ho hp (by rw [har]; exact m2) (k₁ _ _ hx) hcode hvs hfile hcell I.mro I.sup I.subV I.opq I.gs I.top so.ks so.kc (by rw [har]; exact so.lo _ (by simp)) so.kd (Ne.symm hxL) se fun h₂ tk₂ t1 k₂ hx₂ => ?_
    have hns₂ : h₂.Ns s.heap.objs.size (fun y => List.lookup y (List.reverse [(("self" : Str), Value.ref x), (f, v), (g, u)])) := by
      obtain ⟨oL, es, ep, hL, r⟩ := hns
      exact ⟨oL, es, ep, k₂ _ _ hxL hL, r⟩
    have X₂ : K.In h₂ := kept_but X₁ hnx k₂
    refine wpAt_of_wpAny (wpAny_execs_cons (assign_attr (x := x) (v := v) hns₂ m1 m2 so.kd (so.lo _ (by simp)) (so.lo _ (by simp)) hfd (hsw _) ?_))
    refine set_plain X₂ (ox := excO C t1) (od := none) ⟨hx₂, rfl, rfl, trivial⟩ T.ox.sa ?_
    refine exc_osa X₂ hx₂ hcl (show refsVE (.ref C :: bm) = true from hbm) rfl hno (fun h₃ tk₃ dx k₃ dn dne hx₃ hn₃ => ?_)
    have z2 : s.heap.objs.size < h₂.objs.size := hns₂.lt
    have hns₃ : h₃.Ns s.heap.objs.size (fun y => List.lookup y (List.reverse [(("self" : Str), Value.ref x), (f, v), (g, u)])) := by
      obtain ⟨oL, es, ep, hL, r⟩ := hns₂
      exact ⟨oL, es, ep, k₃ _ _ hxL hL, r⟩
    have X₃ : K.In h₃ := kept_but X₂ hnx k₃
    have hw : Within (fun y => if y = f then some v else none) [f] := fun y hy => by
      by_cases e : y = f
      · rw [e]
        exact List.mem_cons_self ..
      · exact absurd (if_neg e) hy
    obtain ⟨oD, _, _, hoD, _, _⟩ := hn₃.count hw
    refine wpAny_execs_cons (assign_attr (x := x) (v := u) hns₃ m3 m2 so.kd (so.lo _ (by simp)) (so.lo _ (by simp)) hgd (hsw2 _) ?_)
    refine set_plain X₃ (ox := { cls := .ref C, dict := some dx, data := .fields #[.ref t1, .none, .none, .none, .bool false, .none] }) (od := some oD) ⟨hx₃, rfl, rfl, hoD⟩ T.ox.sa ?_
    refine OEX.osa_old X₃ hx₃ hn₃ hw (by show 1 ≤ 1000; decide) hcl (show refsVE (.ref C :: bm) = true from hbm) rfl hno2 (fun h₄ tk₄ k₄ hn₄ => ?_)
    exact wpAny_execs_nil (hq h₄ tk₄ dx t1 ⟨fun b o hb e => k₄ b o (Nat.ne_of_lt (Nat.lt_of_lt_of_le (Nat.lt_trans (Heap.lt_size e) z2) dn)) (k₃ b o hb (k₂ b o hb (k₁ b o e))), k₄ x _ (Ne.symm dne) hx₃, Nat.le_of_lt (Nat.lt_of_lt_of_le z2 dn), dne, hn₄⟩)
/-- C(us) -/
theorem made (T : ExcT K C) (iC : findIn K (.ref C) "__init__" = some (some (.ref fI))) (tC : typeIn K (.ref fI) = some (.type "function")) {nms : List Str} (IR : InitRuns prog K mg C fI nms) {w : World} {A : Around} {s : Shared} {R : Result → Shared → Prop} {us : List Value} {mb : Str → Option Value}
    (hus : us.length = nms.length) (hz : us.length ≤ sizeLine) (X : K.In s.heap) (hlim : s.heap.NoLimit) (hg : s.heap.Ns mainGlobals mg) (hb : s.heap.Ns builtinsNs mb) (hbb : mb "super" = some (.type "super")) (hroom : A.depth + 1 < recursionLimit)
    (hq : ∀ h' tk e dx t1, s.heap.objs.size ≤ e → (∀ b o, s.heap.get? b = some o → h'.get? b = some o) → h'.get? e = some { cls := .ref C, dict := some dx, data := .fields #[.ref t1, .none, .none, .none, .bool false, .none] } → s.heap.objs.size ≤ dx → dx ≠ e → h'.Ns1 dx (nsOf (nms.zip us).reverse) →
      R (.ok (.ret (.ref e))) { s with heap := h', toks := tk }) :
    codeAny (model prog w) A (.call (.ref C) ⟨us, []⟩) R s := by
  obtain ⟨nm, q, N, bs, bm, sn, sub, ab, col, dd, k0, k1, k2, k3, k5, hC, hbm⟩ := T.ox.cls
  obtain ⟨hp, g, dr, tk, os⟩ := s
  have k : ∀ b o, hp.get? b = some o → ((hp.push (kdv_tup us)).push (excO C hp.objs.size)).get? b = some o := fun b o e => Heap.get?_push_of_some _ (Heap.get?_push_of_some _ e)
  have hget : ((hp.push (kdv_tup us)).push (excO C hp.objs.size)).get? (hp.objs.size + 1) = some (excO C hp.objs.size) := by heap_get
  have hnx : K.lookup (hp.objs.size + 1) = none := by
    cases e : K.lookup (hp.objs.size + 1) with
    | none => rfl
    | some o =>
      have z : hp.get? (hp.objs.size + 1) = some o := X _ _ e
      exact absurd (Nat.lt_of_succ_lt (Heap.lt_size z)) (Nat.lt_irrefl _)
  refine call_own F.excBase_ValueError (fun X => refsVE_contains X bm hbm) (X _ _ hC) (looks_findIn X iC) (fun self => bind_fn X self tC) hz ?_
  refine IR w _ ⟨(hp.push (kdv_tup us)).push (excO C hp.objs.size), g, dr, tk, os⟩ _ (hp.objs.size + 1) hp.objs.size us mb hus (X.keeps k) (hlim.keeps k) (hg.keeps k) (hb.keeps k) hbb hget hnx ?_ fun h' tk' dx t1 ⟨k', hx, dn, dne, hns⟩ => ?_
  · show A.depth + 1 < recursionLimit
    exact hroom
  · have old : ∀ b o, hp.get? b = some o → h'.get? b = some o := fun b o e => k' b o (Nat.ne_of_lt (Nat.lt_succ_of_lt (Heap.lt_size e))) (k b o e)
    have z : hp.objs.size + 1 + 1 ≤ dx := by
      first
        | (simpa only [Heap.size_push] using dn)
        | exact dn
        | (have q := dn; rw [Heap.size_push, Heap.size_push] at q; exact q)
    exact ⟨rfl, hq h' tk' (hp.objs.size + 1) dx t1 (Nat.le_succ _) old hx (Nat.le_trans (Nat.le_trans (Nat.le_succ _) (Nat.le_succ _)) z) dne hns⟩
end
end LX
end PySem
namespace L2
open PySem PySem.Spec PyProof.Rows
theorem relO_ns : ∀ {fs : List (Str × V)} {us : List (Str × Value)}, Paired (fun (p : Str × V) (q : Str × Value) => p.1 = q.1 ∧ RelV p.2 q.2) fs us → ∀ f, RelO (fs.lookup f) (PySem.LX.nsOf us f)
  | _, _, .nil, f => True.intro
  | _, _, .cons (a := (g, v)) (b := (g', u)) r t, f => by
    obtain ⟨e, rv⟩ := r
    have e' : g = g' := e
    subst e'
    rw [lookup_put]
    show RelO _ (if f = g then some u else PySem.LX.nsOf _ f)
    by_cases h : f = g
    · rw [if_pos h, if_pos h]
      exact rv
    · rw [if_neg h, if_neg h]
      exact relO_ns t f
theorem paired_app {α β : Type} {F : α → β → Prop} {k₁ : List α} {k₂ : List β} {l₁ : List α} {l₂ : List β} (h : Paired F l₁ l₂) (g : Paired F k₁ k₂) : Paired F (l₁ ++ k₁) (l₂ ++ k₂) := by
  induction h with
  | nil => exact g
  | cons r t ih => exact .cons r ih
theorem paired_rev {α β : Type} {F : α → β → Prop} {l₁ : List α} {l₂ : List β} (h : Paired F l₁ l₂) : Paired F l₁.reverse l₂.reverse := by
  induction h with
  | nil => exact .nil
  | cons r t ih =>
    rw [List.reverse_cons, List.reverse_cons]
    exact paired_app ih (.cons r .nil)
theorem paired_zip {nms : List Str} : ∀ {vs : List V} {us : List Value}, Vals vs us → Paired (fun (p : Str × V) (q : Str × Value) => p.1 = q.1 ∧ RelV p.2 q.2) (nms.zip vs) (nms.zip us) := by
  induction nms with
  | nil => intro vs us _; exact .nil
  | cons n r ih =>
    intro vs us h
    cases h with
    | nil => exact .nil
    | cons q t => exact .cons ⟨rfl, q⟩ (ih t)
section
variable {X : Cx} {C fI : Addr}
/-- C(e, ..) -/
def tMkX (C : Addr) (nms : List Str) (ta : TA) : St → Hp → XK → Prop := fun σ H Q => ta σ H fun vs H1 => vs.length = nms.length ∧ nms.length ≤ 10 ∧ ∀ d, H1 d = none → Q (.ref C) (some d) (upd H1 d (.xd (nms.zip vs).reverse))
theorem pmk_x {e : Expr} {es : List Expr} {ta : TA} {x : Str} {p pos : Pos} {k : Nat} {nms : List Str} (T : PySem.LX.ExcT X.K C) (iC : PySem.W.findIn X.K (.ref C) "__init__" = some (some (.ref fI))) (tC : PySem.W.typeIn X.K (.ref fI) = some (.type "function"))
    (IR : PySem.LX.InitRuns X.prog X.K X.mg C fI nms) (gC : X.mg x = some (.ref C)) (hr : Room k X.A) (ha : PA X (e :: es) ta) (hg : Gl X x) (hdb : (x == ("__debug__" : Str)) = false := by decide)
    (he : starEach (e :: es) X.env = (false, eval e X.env) :: starEach es X.env := by rfl) (hpl : (backTo pos (starEach es X.env)).any (·.1) = false := by rfl) :
    L2N.PMk X (.Call (.Name x p) (e :: es) [] pos) (tMkX C nms ta) := by
  intro pins s σ H Q I h
  refine wpAny_Call_Name_kw (ld_glob I hg gC ?_ hdb)
  refine PySem.W.callWith_K (h₀ := X.base) I.ok.mod.kin T.ox.kC (thn (ha.run pos pins s σ H _ I h) fun us s1 hh => ?_) he hpl
  obtain ⟨vs, H1, I1, r1, hl, hten, q1⟩ := hh
  refine ⟨I1.kIn, ?_⟩
  show wpAny _ _ (call (.ref C) us) _ _ _
  have hlim := I1.nolimit
  obtain ⟨mb, b1, b2⟩ := I1.mod.blt
  have hlu : us.length = nms.length := by rw [← r1.length, hl]
  have hG : s1.heap.Ns mainGlobals X.mg := I1.mod.glob.keeps I1.bk
  have hB : s1.heap.Ns builtinsNs mb := b1.keeps I1.bk
  obtain ⟨hp, g, dr, tk, os⟩ := s1
  refine wpAny_call (PySem.LX.made T iC tC IR hlu (by rw [hlu, sizeLine_eq]; omega) I1.kIn hlim hG hB ((b2 "super" (by decide)).trans (by decide +kernel)) (by have := hr.dp; omega) fun h' tk' e' d t1 hne old hoe hdb' dne hns => ?_)
  show L2N.MkP X pins σ Q (.ref e') ⟨h', g, dr, tk', os⟩
  obtain ⟨G', g1, g2⟩ := restrict h' fun b => decide (b ≠ e')
  have gk : ∀ b, b ≠ e' → G'.get? b = h'.get? b := fun b hb => g1 b (decide_eq_true hb)
  have ge : G'.get? e' = none := g2 e' (by simp)
  have old' : ∀ b o, hp.get? b = some o → G'.get? b = some o := fun b o q => (gk b (Nat.ne_of_lt (Nat.lt_of_lt_of_le (Heap.lt_size q) hne))).trans (old b o q)
  have ob : ObjOk X.prog X.w (upd H1 d (.xd (nms.zip vs).reverse)) G' d (.xd (nms.zip vs).reverse) :=
    ⟨_, hns.at (fun o q => (gk d dne).trans q), relO_ns (paired_rev (paired_zip r1))⟩
  have J : Inv X pins σ (upd H1 d (.xd (nms.zip vs).reverse)) ⟨G', g, dr, tk', os⟩ := I1.laid (t' := tk') old' hdb' ob
  refine ⟨e', _, _, ⟨G', g, dr, tk', os⟩, _, .ref C, some d, rfl, J, fun b o q => ?_, ge, hoe, ⟨rfl, rfl, fun vs e => by cases e; rfl⟩, rfl, rfl, ?_, rfl, I1.bare, raises_own T.ox.exC T.ox.tyC, q1 d (I1.hok.fresh hdb')⟩
  · by_cases hb : b = e'
    · have q' : G'.get? b = some o := q
      rw [hb, ge] at q'; cases q'
    · exact (gk b hb).symm.trans q
  · rw [upd_ne (Ne.symm dne)]
    exact I1.hok.fresh hne
end
end L2

namespace PySem.W
open PySem PySem.Spec PySem.Calls PyProof.Rows
theorem kitx_excD {K : Frag} {x D : Addr} {ox : Obj} (T : PySem.LX.ExcT K D) : KitX K (.ref x) (.ref D) (fun h => ∃ od, InstAt h x ox D od) where
  ty := fun _ _ _ ⟨_, I⟩ => I.type
  it := fun _ _ X _ => by
    obtain ⟨cdD, hcD, _⟩ := any_some T.hd
    unfold clsIn at hcD
    split at hcD
    · rename_i c' d' cd' sl' ho
      intro A' Q' E' s' k q
      unfold isType loadHead
      exact wpAny_bind (wpAny_loadPart (k _ _ (X _ _ ho)) (wpAny_pure q))
    · cases hcD
  ne := fun h tp dd its n sl X htp => by
    obtain ⟨cdD, hcD, _⟩ := any_some T.hd
    refine Bool.eq_false_iff.mpr fun q => ?_
    have e : D = tp := Value.ref.inj (beq_iff_eq.mp q)
    subst e
    unfold clsIn at hcD
    split at hcD
    · rename_i c' d' cd' sl' ho
      have z := (X _ _ ho).symm.trans htp
      cases z
    · cases hcD
  ca := fun X ⟨_, I⟩ k => kx_classE X I T.ga T.gg T.ox.exC (findObj_dataE (by obtain ⟨cd, hc, _⟩ := any_some T.hd; rw [hc]; rfl) T.ha T.hn T.ht) T.hm k
end PySem.W
namespace L2
open PySem PySem.Spec PyProof.Rows
/-- d is the exception's own dict, or it has none -/
def DOk (H : Hp) (d : Option Addr) : Prop := d = none ∨ ∃ dd fs, d = some dd ∧ H dd = some (.xd fs)
theorem inst_exc {X : Cx} {a C : Addr} {oe : Obj} {cls : Value} {d : Option Addr} {pn pins : List (Addr × Obj)} {σ : St} {H : Hp} {s : Shared} (hz : Zc cls d oe) (hf : ∃ vs, oe.data = .fields vs) (I : Inv (X.suite a ((a, oe) :: pn)) pins σ H s) (hc : cls = .ref C) (hd : DOk H d) : ∃ od, PySem.W.InstAt s.heap a oe C od := by
  obtain ⟨hget, _⟩ := I.pin (a, oe) (List.mem_append.mpr (.inl List.mem_cons_self))
  obtain ⟨vs, hv⟩ := hf
  subst hc
  rcases hd with rfl | ⟨dd, fs, rfl, hx⟩
  · refine ⟨none, hget, hz.1, by unfold PySem.W.notCls; rw [hv] <;> rfl, by rw [hz.2]; trivial⟩
  · have hx' : ObjOk X.prog X.w H s.heap dd (.xd fs) := I.hok dd _ hx
    obtain ⟨mA, hns, hr⟩ := hx'
    obtain ⟨od, ho, hl⟩ := lookIn_ns hns
    exact ⟨some od, hget, hz.1, by unfold PySem.W.notCls; rw [hv] <;> rfl, by rw [hz.2]; exact ho⟩
/-- isinstance(e, c), e the exception that the suite holds -/
def rIsX (K : PySem.W.Frag) (cls : Value) (d : Option Addr) (a : Addr) : List V → Hp → VK → Prop := fun xs H Q => ∃ (D : Addr) (c : V) (cv : Value) (b : Bool), cls = .ref D ∧ PySem.LX.ExcT K D ∧ DOk H d ∧ xs = [.ref a, c] ∧ (∀ u, RelV c u → u = cv) ∧ PySem.W.kitOne K (.ref D) cv = some b ∧ Q (.bl b) H
theorem call_isX {X : Cx} {a : Addr} {oe : Obj} {cls : Value} {d : Option Addr} {pn : List (Addr × Obj)} (hz : Zc cls d oe) (hf : ∃ vs, oe.data = .fields vs) : CallR (X.suite a ((a, oe) :: pn)) (.builtin "isinstance") (rIsX X.K cls d a) := by
  intro pins s σ H xs us Q I r h
  obtain ⟨D, c, cv, b, hc, T, hd, rfl, hcv, e, q⟩ := h
  cases r with
  | cons rx rr =>
    cases rr with
    | cons rt rr =>
      cases rr
      cases rx
      have ec := hcv _ rt
      subst ec
      exact PySem.W.kia_one (PySem.W.kitx_excD (ox := oe) T) I.kIn (inst_exc hz hf I hc hd) e (fun z => nomatch z) fun tk => ⟨.bl b, H, I.kept (t' := tk) fun _ _ z => z, rfl, q⟩
/-- e.f -/
def tXd (K : PySem.W.Frag) (a : Addr) (cls : Value) (d : Option Addr) (f : Str) (te : TE) : TE := fun σ H Q => te σ H fun x H1 => x = .ref a ∧ ∃ (C dd : Addr) (fs : List (Str × V)) (v : V), cls = .ref C ∧ d = some dd ∧ PySem.LX.ExcT K C ∧ PySem.W.findIn K (.ref C) f = some none ∧ H1 dd = some (.xd fs) ∧ fs.lookup f = some v ∧ Q v H1
theorem pe_xd {X : Cx} {a : Addr} {oe : Obj} {cls : Value} {d : Option Addr} {pn : List (Addr × Obj)} {e : Expr} {te : TE} {pos : Pos} {n : Str}
    (hz : Zc cls d oe) (hf : ∃ vs, oe.data = .fields vs) (he : PE (X.suite a ((a, oe) :: pn)) e te) (hb : attributeBase e n X.env (eval e X.env) = eval e X.env := by rfl) :
    PE (X.suite a ((a, oe) :: pn)) (.Attribute e n pos) (tXd X.K a cls d n te) := by
  refine ⟨fun pins s σ H Q I h => ?_⟩
  refine attr_of hb (thn (he.run pins s σ H _ I h) fun u s1 hh => ?_)
  obtain ⟨x, H1, I1, rx, ex, C, dd, fs, v, ec, ed, T, hno, ea, l, q⟩ := hh
  subst ex
  obtain rfl : u = Value.ref a := rx
  subst ec
  subst ed
  obtain ⟨ha, _⟩ := I1.pin (a, oe) (List.mem_append_left _ List.mem_cons_self)
  obtain ⟨vs, hd⟩ := hf
  have hx : ObjOk X.prog X.w H1 s1.heap dd (.xd fs) := I1.hok dd _ ea
  obtain ⟨mA, hns, hr⟩ := hx
  obtain ⟨od, ho, hl⟩ := lookIn_ns hns
  obtain ⟨u, hu, ru⟩ := RelO.some_of (v := v) (o := mA n) (by rw [← l]; exact hr n)
  have J : PySem.W.InstAt s1.heap a oe C (some od) := ⟨ha, hz.1, by unfold PySem.W.notCls; rw [hd] <;> rfl, by rw [hz.2]; exact ho⟩
  exact HandSPX.exc_get I1.kIn J T.ga T.gg T.ox.exC (PySem.W.findObj_own T.hd hno rfl (by rw [hl, hu])) (handed_of ru) ⟨v, H1, I1.tok _, ru, q⟩
end L2

/-! A calculus of weakest wishes over the hand layer: ZE (expressions), ZT (tests), ZA (arguments), ZS, ZSs (statements), by their syntax. -/
namespace L2
open PySem PySem.Spec PyProof.Rows
section
variable {X : Cx}
structure ZE (X : Cx) (e : Expr) (σ : St) (H : Hp) (Q : VK) : Prop where
  run : ∀ pins s, Inv X pins σ H s → wpAny (model X.prog X.w) X.A (eval e X.env) (EP X pins σ Q) X.xe s
structure ZT (X : Cx) (e : Expr) (σ : St) (H : Hp) (Q : Bool → Hp → Prop) : Prop where
  run : ∀ pins s, Inv X pins σ H s → wpAny (model X.prog X.w) X.A (isTrue e X.env (eval e X.env)) (TP X pins σ Q) X.xe s
structure ZW (X : Cx) (e : Expr) (σ : St) (H : Hp) (Q : Bool → Hp → Prop) : Prop where
  run : ∀ whole pins s, Inv X pins σ H s → wpAny (model X.prog X.w) X.A (isTrue e X.env whole) (TP X pins σ Q) X.xe s
structure ZA (X : Cx) (es : List Expr) (σ : St) (H : Hp) (Q : List V → Hp → Prop) : Prop where
  run : ∀ pos pins s, Inv X pins σ H s → wpAny (model X.prog X.w) X.A (spliced (backTo pos (starEach es X.env))) (AP X pins σ Q) X.xe s
abbrev NX := St → Hp → Prop
structure ZS (X : Cx) (st : Stmt) (nx : NX) (rt : VK) (bk ct : NX) (σ : St) (H : Hp) : Prop where
  run : ∀ pins s, Inv X pins σ H s → wpAny (model X.prog X.w) X.A (exec st X.env) (SP X pins ⟨nx, rt, bk, ct⟩) X.xe s
structure ZSs (X : Cx) (st : List Stmt) (nx : NX) (rt : VK) (bk ct : NX) (σ : St) (H : Hp) : Prop where
  run : ∀ pins s, Inv X pins σ H s → wpAny (model X.prog X.w) X.A (execs st X.env) (SP X pins ⟨nx, rt, bk, ct⟩) X.xe s
structure ZG (X : Cx) (tg : Expr) (v : V) (σ : St) (H : Hp) (Q : St → Hp → Prop) : Prop where
  run : ∀ pins s u, Inv X pins σ H s → RelV v u → wpAny (model X.prog X.w) X.A (assign tg X.env u) (fun _ s' => ∃ σ' H', Inv X pins σ' H' s' ∧ Q σ' H') X.xe s
structure ZGs (X : Cx) (ts : List Expr) (vs : List V) (σ : St) (H : Hp) (Q : St → Hp → Prop) : Prop where
  run : ∀ pins s us, Inv X pins σ H s → Vals vs us → wpAny (model X.prog X.w) X.A (assignInOrder ((assignEach ts X.env).map (·.2)) us) (fun _ s' => ∃ σ' H', Inv X pins σ' H' s' ∧ Q σ' H') X.xe s
structure ZI (X : Cx) (tg iter : Expr) (σ : St) (H : Hp) (R : It → Hp → Prop) : Prop where
  run : ∀ pins s, Inv X pins σ H s → wpAny (model X.prog X.w) X.A (eval iter X.env) (fun v s1 => wpAny (model X.prog X.w) X.A (pyIter v) (PIE X pins σ tg R) X.xe s1) X.xe s
structure OpW (X : Cx) (σ : St) (f : Value → Value → Sem Value) (x y : V) (H : Hp) (Q : VK) : Prop where
  run : ∀ pins s v u, Inv X pins σ H s → RelV x v → RelV y u → wpAny (model X.prog X.w) X.A (f v u) (EP X pins σ Q) X.xe s
structure UnW (X : Cx) (f : Value → Sem Value) (x : V) (H : Hp) (Q : VK) : Prop where
  run : ∀ pins s σ v, Inv X pins σ H s → RelV x v → wpAny (model X.prog X.w) X.A (f v) (EP X pins σ Q) X.xe s
structure CallW (X : Cx) (f : Value) (xs : List V) (H : Hp) (Q : VK) : Prop where
  run : ∀ pins s σ us, Inv X pins σ H s → Vals xs us → wpAny (model X.prog X.w) X.A (call f us) (EP X pins σ Q) X.xe s
structure TruW (X : Cx) (x : V) (H : Hp) (Q : Bool → Hp → Prop) : Prop where
  run : ∀ pins s σ v, Inv X pins σ H s → RelV x v → wpAny (model X.prog X.w) X.A (truthy v) (TP X pins σ Q) X.xe s
structure MtW (X : Cx) (id : String) (x : V) (xs : List V) (H : Hp) (Q : VK) : Prop where
  run : ∀ pins s σ v us, Inv X pins σ H s → RelV x v → Vals xs us → wpAny (model X.prog X.w) X.A (call (.builtin id) (v :: us)) (EP X pins σ Q) X.xe s
structure IxW (X : Cx) (σ : St) (x y : V) (H : Hp) (Q : VK) : Prop where
  run : ∀ value slice pins s v u, Inv X pins σ H s → RelV x v → RelV y u → subscripted slice false v u = operate [v, u] (getItem v u) → wpAny (model X.prog X.w) X.A (subscriptTail value slice v u) (EP X pins σ Q) X.xe s
structure AtW (X : Cx) (f : Str) (x : V) (H : Hp) (Q : VK) : Prop where
  run : ∀ pins s σ u, Inv X pins σ H s → RelV x u → wpAny (model X.prog X.w) X.A (getAttr u f true) (EP X pins σ Q) X.xe s
structure SetW (X : Cx) (o i v : V) (H : Hp) (Q : Hp → Prop) : Prop where
  run : ∀ pins s σ ov iv u, Inv X pins σ H s → RelV o ov → RelV i iv → RelV v u → wpAny (model X.prog X.w) X.A (setItem ov iv u) (fun _ s' => ∃ H', Inv X pins σ H' s' ∧ Q H') X.xe s
structure SlW (X : Cx) (x : V) (lo hi : Option Int) (H : Hp) (Q : VK) : Prop where
  run : ∀ pins s σ v vl vu sl, Inv X pins σ H s → RelV x v → s.heap.IsSliceOf sl vl vu .none → IsPart vl lo → IsPart vu hi →
    ∃ T id, typeLookup (.type T) "__getitem__" = pure (some (.builtin id)) ∧ s.TypeIs v T ∧ wpAny (model X.prog X.w) X.A (getItem v (.ref sl)) (EP X pins σ Q) X.xe s
structure IpW (X : Cx) (op : Operator) (x y : V) (H : Hp) (Q : VK) : Prop where
  run : ∀ pins s σ v u, Inv X pins σ H s → RelV x v → RelV y u → wpAny (model X.prog X.w) X.A (inplaceOp op v u) (EP X pins σ Q) X.xe s

variable {e a b c : Expr} {es : List Expr} {st : Stmt} {sts rest : List Stmt} {t : TE} {tt : TT} {ta : TA} {ts : TS} {σ : St} {H : Hp} {Q : VK} {D : Ends} {pos : Pos}
theorem pe_we : PE X e (ZE X e) := ⟨fun pins s σ H Q I h => h.run pins s I⟩
theorem pt_wt : PT X e (ZT X e) := ⟨fun pins s σ H Q I h => h.run pins s I⟩
theorem pw_ww : PW X e (ZW X e) := ⟨fun wh pins s σ H Q I h => h.run wh pins s I⟩
theorem pa_wa : PA X es (ZA X es) := ⟨fun pos pins s σ H Q I h => h.run pos pins s I⟩
theorem ps_ws : PS X st (fun D σ H => ZS X st D.nx D.rt D.bk D.ct σ H) := ⟨fun pins s σ H D I h => h.run pins s I⟩
theorem pss_wss : PSs X sts (fun D σ H => ZSs X sts D.nx D.rt D.bk D.ct σ H) := ⟨fun pins s σ H D I h => h.run pins s I⟩
theorem pg_wg : PG X e (ZG X e) := ⟨fun pins s σ H v u Q I r h => h.run pins s u I r⟩
theorem pgs_wgs : PGs X es (ZGs X es) := ⟨fun pins s σ H vs us Q I r h => h.run pins s us I r⟩
theorem pi_wi : PI X a b (ZI X a b) := ⟨fun pins s σ H R I h => h.run pins s I⟩
theorem un_w {f : Value → Sem Value} : UnR X f (UnW X f) := fun pins s σ H x v Q I rx h => h.run pins s σ v I rx
theorem call_w {f : Value} : CallR X f (CallW X f) := fun pins s σ H xs us Q I r h => h.run pins s σ us I r
theorem tru_w : TruR X (TruW X) := fun pins s σ H x v Q I r h => h.run pins s σ v I r
theorem mt_w {id : String} : MtR X id (MtW X id) := fun pins s σ H x xs v us Q I rx r h => h.run pins s σ v us I rx r
theorem set_w : PSet X (SetW X) := fun pins s σ H o i v ov iv u Q I ro ri rv h => h.run pins s σ ov iv u I ro ri rv
theorem sl_w : SlR X (SlW X) := fun pins s σ H x v vl vu lo hi sl Q I rx hs pl pu h => h.run pins s σ v vl vu sl I rx hs pl pu
theorem ip_w {op : Operator} : PIp X op (IpW X op) := fun pins s σ H x y v u Q I rx ry h => h.run pins s σ v u I rx ry
theorem PE.w (h : PE X e t) (q : t σ H Q) : ZE X e σ H Q := ⟨fun pins s I => h.run pins s σ H Q I q⟩
theorem PT.w (h : PT X e tt) {Q : Bool → Hp → Prop} (q : tt σ H Q) : ZT X e σ H Q := ⟨fun pins s I => h.run pins s σ H Q I q⟩
theorem PW.w (h : PW X e tt) {Q : Bool → Hp → Prop} (q : tt σ H Q) : ZW X e σ H Q := ⟨fun wh pins s I => h.run wh pins s σ H Q I q⟩
theorem PA.w (h : PA X es ta) {Q : List V → Hp → Prop} (q : ta σ H Q) : ZA X es σ H Q := ⟨fun pos pins s I => h.run pos pins s σ H Q I q⟩
variable {nx bk ct : NX} {rt : VK}
theorem PS.w (h : PS X st ts) (q : ts ⟨nx, rt, bk, ct⟩ σ H) : ZS X st nx rt bk ct σ H := ⟨fun pins s I => h.run pins s σ H _ I q⟩
theorem PSs.w (h : PSs X sts ts) (q : ts ⟨nx, rt, bk, ct⟩ σ H) : ZSs X sts nx rt bk ct σ H := ⟨fun pins s I => h.run pins s σ H _ I q⟩
theorem PG.w {g : TG} (h : PG X e g) {v : V} {Q : St → Hp → Prop} (q : g v σ H Q) : ZG X e v σ H Q := ⟨fun pins s u I r => h.run pins s σ H v u Q I r q⟩
theorem PGs.w {g : TGs} (h : PGs X es g) {vs : List V} {Q : St → Hp → Prop} (q : g vs σ H Q) : ZGs X es vs σ H Q := ⟨fun pins s us I r => h.run pins s σ H vs us Q I r q⟩
theorem PI.w {wi : TI} (h : PI X a b wi) {R : It → Hp → Prop} (q : wi σ H R) : ZI X a b σ H R := ⟨fun pins s I => h.run pins s σ H R I q⟩
theorem OpR.w {f : Value → Value → Sem Value} {r : R2} (h : OpR X f r) {x y : V} (q : r x y H Q) : OpW X σ f x y H Q := ⟨fun pins s v u I rx ry => h pins s σ H x y v u Q I rx ry q⟩
theorem UnR.w {f : Value → Sem Value} {r : V → Hp → VK → Prop} (h : UnR X f r) {x : V} (q : r x H Q) : UnW X f x H Q := ⟨fun pins s σ v I rx => h pins s σ H x v Q I rx q⟩
theorem CallR.w {f : Value} {r : List V → Hp → VK → Prop} (h : CallR X f r) {xs : List V} (q : r xs H Q) : CallW X f xs H Q := ⟨fun pins s σ us I rx => h pins s σ H xs us Q I rx q⟩
theorem MtR.w {id : String} {r : V → List V → Hp → VK → Prop} (h : MtR X id r) {x : V} {xs : List V} (q : r x xs H Q) : MtW X id x xs H Q := ⟨fun pins s σ v us I rx rs => h pins s σ H x xs v us Q I rx rs q⟩
theorem IxR.w {r : R2} (h : IxR X r) {x y : V} (q : r x y H Q) : IxW X σ x y H Q := ⟨fun value slice pins s v u I rx ry e => h value slice pins s σ H x y v u Q I rx ry q e⟩
theorem PSet.w {r : TSet} (h : PSet X r) {o i v : V} {Q : Hp → Prop} (q : r o i v H Q) : SetW X o i v H Q := ⟨fun pins s σ ov iv u I ro ri rv => h pins s σ H o i v ov iv u Q I ro ri rv q⟩
theorem SlR.w {r : V → Option Int → Option Int → Hp → VK → Prop} (h : SlR X r) {x : V} {lo hi : Option Int} (q : r x lo hi H Q) : SlW X x lo hi H Q := ⟨fun pins s σ v vl vu sl I rx hs pl pu => h pins s σ H x v vl vu lo hi sl Q I rx hs pl pu q⟩
theorem PIp.w {op : Operator} {r : TIp} (h : PIp X op r) {x y : V} (q : r x y H Q) : IpW X op x y H Q := ⟨fun pins s σ v u I rx ry => h pins s σ H x y v u Q I rx ry q⟩

/-! ### expressions -/
theorem ze_var (i : Nat) {x : Str} {v : V} (hN : X.N[i]? = some x) (hv : σ[i]? = some (some v)) (q : Q v H) (vi : Vis X.env.scope x := by first | exact Or.inl rfl | exact Or.inr (Or.inl rfl) | exact Or.inr (Or.inr rfl))
    (hd : (x == ("__debug__" : Str)) = false := by decide) (hcd : (x == ("__classdict__" : Str)) = false := by decide) : ZE X (.Name x pos) σ H Q := (pe_var hN vi hd hcd).w ⟨v, hv, q⟩
theorem ze_int {i : Int} {j : Nat} (q : Q (.int i) H) : ZE X (.Constant (.int i) j pos) σ H Q := pe_int.w q
theorem ze_bl {i : Bool} {j : Nat} (q : Q (.bl i) H) : ZE X (.Constant (.bool i) j pos) σ H Q := pe_bl.w q
theorem ze_str {i : Str} {j : Nat} (q : Q (.str i) H) : ZE X (.Constant (.str i) j pos) σ H Q := pe_str.w q
theorem ze_non {j : Nat} (q : Q .non H) : ZE X (.Constant .none j pos) σ H Q := pe_non.w q
theorem ze_glob {x : Str} {v : V} {u : Value} (hm : X.mg x = some u) (r : RelV v u) (q : Q v H) (hg : Gl X x := by rfl) (hd : (x == ("__debug__" : Str)) = false := by decide) : ZE X (.Name x pos) σ H Q := (pe_glob hg hm r hd).w q
theorem ze_bltn {x : Str} {v : V} {u : Value} (hm : X.mg x = none) (hv : bootBuiltins x = some u) (r : RelV v u) (q : Q v H) (hg : Gl X x := by rfl) (hn : x ≠ "__name__" := by decide) (hd : (x == ("__debug__" : Str)) = false := by decide) : ZE X (.Name x pos) σ H Q := (pe_bltn hg hm hv r hn hd).w q
theorem ze_op {op : Operator} (h : ZE X a σ H fun x H1 => ZE X b σ H1 fun y H2 => OpW X σ (binaryOp op) x y H2 Q) : ZE X (.BinOp a op b pos) σ H Q := ⟨fun pins s I => wpAny_BinOp (binT pe_we pe_we I h fun v u s2 x y H2 I2 rx ry q => q.run pins s2 v u I2 rx ry)⟩
theorem ze_un {op : UnaryOp} (h : ZE X a σ H fun x H1 => UnW X (unaryOp op) x H1 Q) : ZE X (.UnaryOp op a pos) σ H Q := (pe_un un_w pe_we).w h
theorem ze_notV (h : ZE X a σ H fun x H1 => ∃ c, x = .bl c ∧ Q (.bl (!c)) H1) : ZE X (.UnaryOp .Not a pos) σ H Q := (pe_not pe_we).w h
theorem ze_cmp {op : CmpOp} (hm : behindInMarks op b = false) (h : ZE X a σ H fun x H1 => ZE X b σ H1 fun y H2 => OpW X σ (compareOp op) x y H2 Q) : ZE X (.Compare a [op] [b] pos) σ H Q := ⟨fun pins s I => wpAny_Compare1 (binT pe_we pe_we I h fun v u s2 x y H2 I2 rx ry q => q.run pins s2 v u I2 rx ry) hm⟩
theorem ze_chain {op op' : CmpOp} (hm : lastMarks [op, op'] [b, c] = false) (h : ZE X a σ H fun x H1 => ZE X b σ H1 fun y H2 => OpW X σ (compareOp op) x y H2 fun z H3 => ∃ k, z = .bl k ∧ (if k = true then ZE X c σ H3 fun w' H4 => OpW X σ (compareOp op') y w' H4 Q else Q (.bl false) H3)) : ZE X (.Compare a [op, op'] [b, c] pos) σ H Q := by
  refine ⟨fun pins s I => ?_⟩
  refine Compare_chain (thn (h.run pins s I) fun v s1 ⟨x, H1, I1, r1, q1⟩ => chain_link (thn (q1.run pins s1 I1) fun u s2 ⟨y, H2, I2, r2, q2⟩ => thn (q2.run pins s2 v u I2 r1 r2) fun d s3 ⟨z, H3, I3, r3, k, e, q3⟩ => ?_)) hm
  subst e
  cases r3
  refine wpAny_truthy_bool ?_
  cases k with
  | true => exact ite_tt (chain_last (thn (q3.run pins s3 I3) fun w' s4 ⟨z', H4, I4, r4, q4⟩ => q4.run pins s4 u w' I4 r2 r4))
  | false => exact ite_ff ⟨.bl false, H3, I3, rfl, q3⟩
theorem ze_and1 {op : BoolOp} (h : ZE X a σ H Q) : ZE X (.BoolOp op [a] pos) σ H Q := (pe_one pe_we).w h
theorem ze_and (h : ZE X a σ H fun x H1 => ∃ c, x = .bl c ∧ if c = true then ZE X (.BoolOp .And (b :: es) pos) σ H1 Q else Q (.bl false) H1) : ZE X (.BoolOp .And (a :: b :: es) pos) σ H Q := (pe_and pe_we pe_we).w h
theorem ze_or (h : ZE X a σ H fun x H1 => ∃ c, x = .bl c ∧ if c = true then Q (.bl true) H1 else ZE X (.BoolOp .Or (b :: es) pos) σ H1 Q) : ZE X (.BoolOp .Or (a :: b :: es) pos) σ H Q := (pe_or pe_we pe_we).w h
theorem ze_if (h : ZT X c σ H fun k H1 => if k = true then ZE X a σ H1 Q else ZE X b σ H1 Q) : ZE X (.IfExp c a b pos) σ H Q := (pe_ifExp pt_wt pe_we pe_we).w h
theorem ze_tup {k : Nat} (h : ZA X es σ H fun xs H1 => xs.length ≤ sizeLine ∧ ∀ p, H1 p = none → Q (.ref p) (upd H1 p (.tup xs))) : ZE X (.Tuple es k pos) σ H Q := (pe_tup pa_wa).w h
theorem ze_lst (h : ZA X es σ H fun xs H1 => xs.length ≤ sizeLine ∧ ∀ p, H1 p = none → Q (.ref p) (upd H1 p (.lst xs))) : ZE X (.List es pos) σ H Q := (pe_lst pa_wa).w h
theorem za_nil {Q : List V → Hp → Prop} (q : Q [] H) : ZA X [] σ H Q := pa_nil.w q
theorem za_cons {Q : List V → Hp → Prop} (h : ZE X e σ H fun x H1 => ZA X es σ H1 fun xs H2 => Q (x :: xs) H2) (hs : starEach (e :: es) X.env = (false, eval e X.env) :: starEach es X.env := by rfl) : ZA X (e :: es) σ H Q := (pa_cons pe_we pa_wa hs).w h
theorem ze_sub (h : ZE X a σ H fun x H1 => ZE X b σ H1 fun y H2 => IxW X σ x y H2 Q) (hs : PlainIx b := by exact fun _ _ => rfl) : ZE X (.Subscript a b pos) σ H Q := ⟨fun pins s I => Subscript_ (binT pe_we pe_we I h fun v u s2 x y H2 I2 rx ry q => q.run a b pins s2 v u I2 rx ry (hs _ _))⟩
def ZO (X : Cx) (e : Option Expr) : TO := match e with
  | none => tNoPart
  | some e => tPart (fun σ H Q => ZE X e σ H Q)
theorem po_wo : ∀ {e : Option Expr}, PO X e (ZO X e)
  | none => po_none
  | some _ => po_some pe_we
theorem ze_slice {lo hi : Option Expr} {p2 : Pos} (h : ZE X a σ H fun x H1 => ZO X lo σ H1 fun l H2 => ZO X hi σ H2 fun u H3 => SlW X x l u H3 Q) : ZE X (.Subscript a (.Slice lo hi none p2) pos) σ H Q := (pe_slice sl_w pe_we po_wo po_wo).w h
theorem zo_none {Q : Option Int → Hp → Prop} (q : Q none H) : ZO X none σ H Q := q
theorem zo_some {Q : Option Int → Hp → Prop} (h : ZE X e σ H fun x H1 => ∃ i, x = .int i ∧ Q (some i) H1) : ZO X (some e) σ H Q := h
theorem ze_attr {f : Str} (h : ZE X a σ H fun x H1 => AtW X f x H1 Q) (hb : attributeBase a f X.env (eval a X.env) = eval a X.env := by rfl) : ZE X (.Attribute a f pos) σ H Q := ⟨fun pins s I =>
  attr_of hb (thn (h.run pins s I) fun u s1 ⟨x, H1, I1, rx, q⟩ => q.run pins s1 σ u I1 rx)⟩
/-- a built-in function's call -/
theorem ze_callB {x : Str} {id : String} {p : Pos} (hm : X.mg x = none) (hv : bootBuiltins x = some (.builtin id)) (h : ZA X (e :: es) σ H fun vs H1 => CallW X (.builtin id) vs H1 Q) (hg : Gl X x := by rfl) (hn : x ≠ "__name__" := by decide) (hdb : (x == ("__debug__" : Str)) = false := by decide)
    (he : starEach (e :: es) X.env = (false, eval e X.env) :: starEach es X.env := by rfl) (hpl : (backTo pos (starEach es X.env)).any (·.1) = false := by rfl) : ZE X (.Call (.Name x p) (e :: es) [] pos) σ H Q := (pe_callB call_w hg hm hv pa_wa hn hdb he hpl).w h
theorem ze_callT {x : Str} {T : String} {p : Pos} (hm : X.mg x = none) (hv : bootBuiltins x = some (.type T)) (h : ZA X (e :: es) σ H fun vs H1 => CallW X (.type T) vs H1 Q) (hg : Gl X x := by rfl) (hn : x ≠ "__name__" := by decide) (hdb : (x == ("__debug__" : Str)) = false := by decide)
    (he : starEach (e :: es) X.env = (false, eval e X.env) :: starEach es X.env := by rfl) (hpl : (backTo pos (starEach es X.env)).any (·.1) = false := by rfl) : ZE X (.Call (.Name x p) (e :: es) [] pos) σ H Q := (pe_callTy call_w hg hm hv pa_wa hn hdb he hpl).w h
/-- a built-in type's method -/
theorem ze_bm0 {T id : String} {name : Str} {apos : Pos} (pl : PlainAttrs T) (slot : Slot T name id) (hty : typeOf (.builtin id) = pure (.type "method_descriptor")) (h : ZE X a σ H fun x H1 => tyV X.K T x H1 ∧ MtW X id x [] H1 Q)
    (hbase : attributeBase a name X.env (eval a X.env) = eval a X.env := by rfl) (hline : (apos.endLine == pos.line) = true := by rfl) : ZE X (.Call (.Attribute a name apos) [] [] pos) σ H Q := (pe_bm0 pl slot hty mt_w pe_we hbase hline).w h
theorem ze_bm {T id : String} {name : Str} {apos : Pos} (pl : PlainAttrs T) (slot : Slot T name id) (hty : typeOf (.builtin id) = pure (.type "method_descriptor")) (h : ZE X a σ H fun x H1 => tyV X.K T x H1 ∧ ZA X (e :: es) σ H1 fun xs H2 => MtW X id x xs H2 Q)
    (hbase : attributeBase a name X.env (eval a X.env) = eval a X.env := by rfl)
    (hfew : ((backTo pos (starEach (e :: es) X.env)).all (fun x => !x.1) && (backToKw pos (keywordEach [] X.env)).all (fun x => x.1.isSome)
      && decide ((e :: es).length + ([] : List Keyword).length + (if ([] : List Keyword).isEmpty then 0 else 1) < 30)) = true := by rfl)
    (hline : (apos.endLine == pos.line) = true := by rfl) (hs : starEach (e :: es) X.env = (false, eval e X.env) :: starEach es X.env := by rfl) (hplain : (backTo pos (starEach es X.env)).any (·.1) = false := by rfl) :
    ZE X (.Call (.Attribute a name apos) (e :: es) [] pos) σ H Q := (pe_bm pl slot hty mt_w pe_we pa_wa hbase hfew hline hs hplain).w h
end

/-! ### calls of the text's own defs -/
/-- the weakest wish of an exception -/
def XW (X : Cx) : WX := fun cls d σ H => ∀ u s' (a : Addr) (B : Heap) (sI : Shared) (pins : List (Addr × Obj)),
    u = .ref a → Inv X pins σ H sI → (∀ b o, sI.heap.get? b = some o → b ∉ frs X.stack → B.get? b = some o) → sI.heap.UpToSlots s'.heap → Sky B X.stack a (L2N.Zn cls d) X.env.locals s'.heap → H a = none → s'.os = sI.os → AllBare s'.gens → X.xe u s'
theorem takes_xw {X : Cx} : L2N.Takes X (XW X) := fun u s' ⟨a, B, sI, pins, σ, H, cls, d, e1, I, h2, h3, h4, h5, h6, h7, w⟩ => w u s' a B sI pins e1 I h2 h3 h4 h5 h6 h7
theorem xw_of {X : Cx} {W : WX} (tk : L2N.Takes X W) {cls : Value} {d : Option Addr} {σ : St} {H : Hp} (h : W cls d σ H) : XW X cls d σ H := fun u s' a B sI pins e1 I h2 h3 h4 h5 h6 h7 => tk u s' ⟨a, B, sI, pins, σ, H, cls, d, e1, I, h2, h3, h4, h5, h6, h7, h⟩
/-- a def as a name of the module, with its promise (the arguments behind the given ones by their defaults) -/
structure Cal (P : Program) (w : World) (K : PySem.W.Frag) (mg : Str → Option Value) (base : Heap) (k : Nat) (x : Str) (sp : Sp) : Prop where
  ex : ∃ (f : Addr) (fd : FuncData) (ps : List Str) (dvs : List V) (ds : List Value) (sp0 : Sp), FnOk P w K mg base (L2N.CX P w) k f fd ps sp0 ∧ mg x = some (.ref f) ∧ PySem.W.keepIn K (.ref f) = true ∧ Binds K fd ps ds ∧ Vals dvs ds ∧ ∀ vs H Q E, sp vs H Q E → sp0 (vs ++ dvs) H Q E
section
variable {X : Cx} {e a : Expr} {es : List Expr} {σ : St} {H : Hp} {Q : VK} {p pos apos : Pos}
theorem zrun {k : Nat} {f : Addr} {fd : FuncData} {ps : List Str} {sp : Sp} {ds : List Value} {dvs : List V} {pins : List (Addr × Obj)} {s : Shared} {us : List Value} {vs : List V} (F : FnOk X.prog X.w X.K X.mg X.base (L2N.CX X.prog X.w) k f fd ps sp) (hr : Room k X.A) (hb : Binds X.K fd ps ds) (hd : Vals dvs ds)
    (I : Inv X pins σ H s) (r : Vals vs us) (h : sp (vs ++ dvs) H Q fun cls d H' => XW X cls d σ H') : wpAny (model X.prog X.w) X.A (call (.ref f) us) (EP X pins σ Q) X.xe s := by
  have rr : Vals (vs ++ dvs) (us ++ ds) := r.append hd
  have hl : (us ++ ds).length = ps.length := by rw [← rr.length]; exact F.len _ _ _ _ h
  refine wpAny_call (codeAny_mono (F.run X.A X.stack s H ⟨us, []⟩ (us ++ ds) (vs ++ dvs) Q _ hr I.env0 (hb s us I.kIn hl) rr h) fun r s' hq => ?_)
  cases r with
  | error e => exact takes_xw e s' (L2N.XE.of_call I (fun cls d H' w => w) hq)
  | ok fl =>
    cases fl with
    | ret u => exact I.after hq
    | next => exact False.elim hq
    | brk => exact False.elim hq
    | cont => exact False.elim hq
theorem ze_call {x : Str} {k j : Nat} {sp : Sp} (c : Cal X.prog X.w X.K X.mg X.base k x sp) (hr : Room j X.A) (hk : k ≤ j) (h : ZA X (e :: es) σ H fun vs H1 => sp vs H1 Q fun cls d H' => XW X cls d σ H') (hg : Gl X x := by rfl)
    (hdb : (x == ("__debug__" : Str)) = false := by decide) (he : starEach (e :: es) X.env = (false, eval e X.env) :: starEach es X.env := by rfl) (hpl : (backTo pos (starEach es X.env)).any (·.1) = false := by rfl) : ZE X (.Call (.Name x p) (e :: es) [] pos) σ H Q := by
  obtain ⟨f, fd, ps, dvs, ds, sp0, F, gm, kp, hb, hd, im⟩ := c.ex
  refine ⟨fun pins s I => ?_⟩
  refine wpAny_Call_Name_kw (ld_glob I hg gm ?_ hdb)
  refine PySem.W.callWith_K (h₀ := X.base) I.ok.mod.kin kp (thn (h.run pos pins s I) fun us s1 ⟨vs, H1, I1, r, q⟩ => ⟨I1.kIn, ?_⟩) he hpl
  exact zrun F (hr.mono hk) hb hd I1 r (im _ _ _ _ q)
theorem ze_call0 {x : Str} {k j : Nat} {sp : Sp} (c : Cal X.prog X.w X.K X.mg X.base k x sp) (hr : Room j X.A) (hk : k ≤ j) (h : sp [] H Q fun cls d H' => XW X cls d σ H') (hg : Gl X x := by rfl)
    (hdb : (x == ("__debug__" : Str)) = false := by decide) : ZE X (.Call (.Name x p) [] [] pos) σ H Q := by
  obtain ⟨f, fd, ps, dvs, ds, sp0, F, gm, kp, hb, hd, im⟩ := c.ex
  refine ⟨fun pins s I => ?_⟩
  refine wpAny_Call_Name_kw (ld_glob I hg gm ?_ hdb)
  exact PySem.W.callWith_K0 I.kIn kp (zrun (us := []) F (hr.mono hk) hb hd I .nil (im _ _ _ _ h))
/-- a method of an own class, with its promise -/
structure CalM (P : Program) (w : World) (K : PySem.W.Frag) (mg : Str → Option Value) (base : Heap) (k : Nat) (C : Addr) (m : Str) (sp : Sp) : Prop where
  ex : ∃ (f : Addr) (fd : FuncData) (ps : List Str) (dvs : List V) (ds : List Value) (sp0 : Sp), FnOk P w K mg base (L2N.CX P w) k f fd ps sp0 ∧ Meth K C m f ∧ Binds K fd ps ds ∧ Vals dvs ds ∧ ∀ vs H Q E, sp vs H Q E → sp0 (vs ++ dvs) H Q E
theorem ze_meth {pl : Sem Bool} {m : Str} {j : Nat} (hr : Room j X.A) (h : ZE X a σ H fun x H1 => ∃ (p C dx : Addr) (fs : List (Str × V)) (k : Nat) (sp : Sp), x = .ref p ∧ H1 p = some (.ins C dx fs) ∧ Cls X.K C ∧ CalM X.prog X.w X.K X.mg X.base k C m sp ∧ k ≤ j ∧ fs.lookup m = none ∧
      ZA X (e :: es) σ H1 fun vs H2 => sp (x :: vs) H2 Q fun cls d H' => XW X cls d σ H')
    (hst : starEach (e :: es) X.env = (false, eval e X.env) :: starEach es X.env := by rfl) (hpl : (backTo pos (starEach es X.env)).any (·.1) = false := by rfl)
    (ht : eval (.Call (.Attribute a m apos) (e :: es) [] pos) X.env = (do
      let ov ← eval a X.env
      standAt apos.atName
      let (f, first) ← holding [ov] (getMethod ov m pl)
      callWith pos f first (backTo pos (starEach (e :: es) X.env)) (backToKw pos (keywordEach [] X.env))) := by rfl) : ZE X (.Call (.Attribute a m apos) (e :: es) [] pos) σ H Q := by
  refine ⟨fun pins s I => ?_⟩
  refine PySem.W.methodCall_KW (pl := pl) (thn (h.run pins s I) fun u s1 ⟨x, H1, I1, rx, p, C, dx, fs, k, sp, ex, ea, c, cm, hk, l, q⟩ => ?_) ht
  subst ex
  obtain rfl : u = Value.ref p := rx
  obtain ⟨f, fd, ps, dvs, ds, sp0, F, hm, hb, hd, im⟩ := cm.ex
  refine getmeth_ok I1 ea c hm l ?_
  refine PySem.W.callWith_K (first := [.ref p]) (h₀ := X.base) I.ok.mod.kin hm.kp (thn (q.run pos pins s1 I1) fun us s2 ⟨vs, H2, I2, r, q2⟩ => ⟨I2.kIn, ?_⟩) hst hpl
  exact zrun (us := .ref p :: us) (vs := .ref p :: vs) F (hr.mono hk) hb hd I2 (.cons rfl r) (im _ _ _ _ q2)
theorem ze_meth0 {pl : Sem Bool} {m : Str} {j : Nat} (hr : Room j X.A) (h : ZE X a σ H fun x H1 => ∃ (p C dx : Addr) (fs : List (Str × V)) (k : Nat) (sp : Sp), x = .ref p ∧ H1 p = some (.ins C dx fs) ∧ Cls X.K C ∧ CalM X.prog X.w X.K X.mg X.base k C m sp ∧ k ≤ j ∧ fs.lookup m = none ∧
      sp [x] H1 Q fun cls d H' => XW X cls d σ H')
    (ht : eval (.Call (.Attribute a m apos) [] [] pos) X.env = (do
      let ov ← eval a X.env
      standAt apos.atName
      let (f, first) ← holding [ov] (getMethod ov m pl)
      callWith pos f first (backTo pos (starEach [] X.env)) (backToKw pos (keywordEach [] X.env))) := by rfl) : ZE X (.Call (.Attribute a m apos) [] [] pos) σ H Q := by
  refine ⟨fun pins s I => ?_⟩
  refine PySem.W.methodCall_KW (pl := pl) (thn (h.run pins s I) fun u s1 ⟨x, H1, I1, rx, p, C, dx, fs, k, sp, ex, ea, c, cm, hk, l, q⟩ => ?_) ht
  subst ex
  obtain rfl : u = Value.ref p := rx
  obtain ⟨f, fd, ps, dvs, ds, sp0, F, hm, hb, hd, im⟩ := cm.ex
  refine getmeth_ok I1 ea c hm l ?_
  refine PySem.W.callWith_K0 (first := [.ref p]) I1.kIn hm.kp ?_
  exact zrun (us := [.ref p]) (vs := [.ref p]) F (hr.mono hk) hb hd I1 (.cons rfl .nil) (im _ _ _ _ q)
end

/-! ### tests -/
section
variable {X : Cx} {e a b c : Expr} {es : List Expr} {st : Stmt} {sts rest : List Stmt} {σ : St} {H : Hp} {nx bk ct : NX} {rt : VK} {pos : Pos} {Q : Bool → Hp → Prop}
theorem zt_cmp {op : CmpOp} (hm : behindInMarks op b = false) (h : ZE X a σ H fun x H1 => ZE X b σ H1 fun y H2 => OpW X σ (compareOp op) x y H2 fun z H3 => ∃ k, z = .bl k ∧ Q k H3) : ZT X (.Compare a [op] [b] pos) σ H Q := by
  refine ⟨fun pins s I => ?_⟩
  refine wpAny_isTrue_Compare1 (thn (h.run pins s I) fun v s1 ⟨x, H1, I1, r1, q1⟩ => thn (q1.run pins s1 I1) fun u s2 ⟨y, H2, I2, r2, q2⟩ => thn (q2.run pins s2 v u I2 r1 r2) fun c s3 ⟨z, H3, I3, r3, k, e, q3⟩ => ?_) hm
  subst e
  cases r3
  exact wpAny_truthy_bool ⟨H3, I3, q3⟩
theorem zt_chain {op op' : CmpOp} (hm : lastMarks [op, op'] [b, c] = false) (h : ZE X a σ H fun x H1 => ZE X b σ H1 fun y H2 => OpW X σ (compareOp op) x y H2 fun z H3 => ∃ k, z = .bl k ∧ (if k = true then ZE X c σ H3 fun w' H4 => OpW X σ (compareOp op') y w' H4 (fun z H5 => ∃ k, z = .bl k ∧ Q k H5) else ∃ k, V.bl false = .bl k ∧ Q k H3)) : ZT X (.Compare a [op, op'] [b, c] pos) σ H Q := by
  refine ⟨fun pins s I => ?_⟩
  refine isTrue_chain (thn (h.run pins s I) fun v s1 ⟨x, H1, I1, r1, q1⟩ => test_link (thn (q1.run pins s1 I1) fun u s2 ⟨y, H2, I2, r2, q2⟩ => thn (q2.run pins s2 v u I2 r1 r2) fun d s3 ⟨z, H3, I3, r3, k, e, q3⟩ => ?_)) hm
  subst e
  cases r3
  refine wpAny_truthy_bool ?_
  cases k with
  | true =>
    refine ite_tt (test_last (thn (q3.run pins s3 I3) fun w' s4 ⟨z', H4, I4, r4, q4⟩ => thn (q4.run pins s4 u w' I4 r2 r4) fun d' s5 ⟨z2, H5, I5, r5, k2, e2, q5⟩ => ?_))
    subst e2
    cases r5
    exact wpAny_truthy_bool ⟨H5, I5, q5⟩
  | false =>
    obtain ⟨k', e', q'⟩ := q3
    cases e'
    exact ite_ff ⟨H3, I3, q'⟩
theorem zt_val (h : ZE X e σ H fun x H1 => ∃ k, x = .bl k ∧ Q k H1) (he : ∀ whole, isTrue e X.env whole = (do let v ← whole; standAt e.pos; holding [v] (truthy v)) := by intro _; rfl) : ZT X e σ H Q := (pt_val pe_we he).w h
theorem zt_truth (h : ZE X e σ H fun x H1 => ∃ k, TruV X.K x H1 k ∧ Q k H1) (he : ∀ whole, isTrue e X.env whole = (do let v ← whole; standAt e.pos; holding [v] (truthy v)) := by intro _; rfl) : ZT X e σ H Q := (pt_truth pe_we he).w h
theorem zt_not (h : ZT X e σ H fun k H1 => Q (!k) H1) : ZT X (.UnaryOp .Not e pos) σ H Q := (pt_not pt_wt).w h
theorem zt_w (h : ZW X e σ H Q) : ZT X e σ H Q := pw_ww.pt.w h
theorem zw_and1 (h : ZT X a σ H Q) : ZW X (.BoolOp .And [a] pos) σ H Q := (pw_and1 pt_wt).w h
theorem zw_or1 (h : ZT X a σ H Q) : ZW X (.BoolOp .Or [a] pos) σ H Q := (pw_or1 pt_wt).w h
theorem zw_and (h : ZT X a σ H fun k H1 => if k = true then ZW X (.BoolOp .And (b :: es) pos) σ H1 Q else Q false H1) : ZW X (.BoolOp .And (a :: b :: es) pos) σ H Q := (pw_and pt_wt pw_ww).w h
theorem zw_or (h : ZT X a σ H fun k H1 => if k = true then Q true H1 else ZW X (.BoolOp .Or (b :: es) pos) σ H1 Q) : ZW X (.BoolOp .Or (a :: b :: es) pos) σ H Q := (pw_or pt_wt pw_ww).w h
theorem zt_and (h : ZT X a σ H fun k H1 => if k = true then ZW X (.BoolOp .And (b :: es) pos) σ H1 Q else Q false H1) : ZT X (.BoolOp .And (a :: b :: es) pos) σ H Q := zt_w (zw_and h)
theorem zt_or (h : ZT X a σ H fun k H1 => if k = true then Q true H1 else ZW X (.BoolOp .Or (b :: es) pos) σ H1 Q) : ZT X (.BoolOp .Or (a :: b :: es) pos) σ H Q := zt_w (zw_or h)

/-! ### statements -/
theorem zss_nil (q : nx σ H) : ZSs X [] nx rt bk ct σ H := pss_nil.w q
theorem zss_cons (h : ZS X st (fun σ' H' => ZSs X rest nx rt bk ct σ' H') rt bk ct σ H) : ZSs X (st :: rest) nx rt bk ct σ H := (pss_cons ps_ws pss_wss).w h
theorem zss_one (h : ZS X st nx rt bk ct σ H) : ZSs X [st] nx rt bk ct σ H := (pss_one ps_ws).w h
theorem zs_pass (q : nx σ H) : ZS X (.Pass pos) nx rt bk ct σ H := ps_pass.w q
theorem zs_break (q : bk σ H) : ZS X (.Break pos) nx rt bk ct σ H := ps_break.w q
theorem zs_continue (q : ct σ H) : ZS X (.Continue pos) nx rt bk ct σ H := ps_continue.w q
theorem zs_expr (h : ZE X e σ H fun _ H1 => nx σ H1) (hs : swapsWith e none pos.line X.env = pure false := by rfl) : ZS X (.Expr e pos) nx rt bk ct σ H := (ps_expr pe_we hs).w h
theorem zs_ret (h : ZE X e σ H rt) : ZS X (.Return (some e) pos) nx rt bk ct σ H := (ps_ret pe_we).w h
theorem zs_retN (q : rt .non H) : ZS X (.Return none pos) nx rt bk ct σ H := ps_retN.w q
theorem zs_if (h : ZT X c σ H fun k H1 => if k = true then ZSs X sts nx rt bk ct σ H1 else ZSs X rest nx rt bk ct σ H1) : ZS X (.If c sts rest pos) nx rt bk ct σ H := (ps_if pt_wt pss_wss pss_wss).w h
theorem zs_asg (h : ZE X e σ H fun x H1 => ZG X a x σ H1 nx) (hs : swapsWithSole [a] e pos.line X.env = pure false := by rfl) (hw : swappedStores [a] e X.env = pure none := by rfl)
    (h1 : (assignEach [a] X.env).map (·.2) = [assign a X.env] := by rfl) : ZS X (.Assign [a] e pos) nx rt bk ct σ H := (ps_asg pe_we pg_wg hs hw h1).w h
theorem zs_set (i : Nat) {x : Str} {pos' : Pos} (hN : X.N.Nodup) (hi : X.N[i]? = some x) (h : ZE X e σ H fun v H1 => nx (σ.set i (some v)) H1) (hx : Loc X.env.scope x := by first | exact Or.inl rfl | exact Or.inr rfl)
    (hs : swapsWith e (some (.Name x pos')) pos.line X.env = pure false := by rfl) (hf : X.fn x = true ∨ X.env.scope.names.lookup x = some .local := by first | exact .inl rfl | exact .inr rfl | assumption) : ZS X (.Assign [.Name x pos'] e pos) nx rt bk ct σ H := (ps_set hN hi hx pe_we hs hf).w h
theorem zs_attr {f : Str} {pos' : Pos} (h : ZE X e σ H fun y H1 => ZE X a σ H1 fun x H2 => ∃ p C dx fs, x = .ref p ∧ H2 p = some (.ins C dx fs) ∧ Cls X.K C ∧ NoAttr X.K C f ∧ fs.length < 1000 ∧ nx σ (upd H2 p (.ins C dx (putF f y fs))))
    (hs : swapsWith e (some (.Attribute a f pos')) pos.line X.env = pure false := by rfl) : ZS X (.Assign [.Attribute a f pos'] e pos) nx rt bk ct σ H := (ps_fld pe_we pe_we hs).w h
theorem zg_name (i : Nat) {x : Str} {v : V} {Q : St → Hp → Prop} (hN : X.N.Nodup) (hi : X.N[i]? = some x) (q : Q (σ.set i (some v)) H) (hx : Loc X.env.scope x := by first | exact Or.inl rfl | exact Or.inr rfl)
    (hf : X.fn x = true ∨ X.env.scope.names.lookup x = some .local := by first | exact .inl rfl | exact .inr rfl | assumption) : ZG X (.Name x pos) v σ H Q := (pg_name hN hi hx hf).w q
theorem zg_tup {k : Nat} {n : Nat} {v : V} {Q : St → Hp → Prop} (hc : X.calm = true) (h : ∃ p xs, v = .ref p ∧ SqT X.K H p xs ∧ xs.length = n ∧ ZGs X es xs σ H Q)
    (hn : (assignEach es X.env).length = n := by rfl) (hst : (assignEach es X.env).findIdx? (·.1) = none := by rfl) : ZG X (.Tuple es k pos) v σ H Q := (pg_tup hc pgs_wgs hn hst).w h
theorem zgs_nil {Q : St → Hp → Prop} (q : Q σ H) : ZGs X [] [] σ H Q := pgs_nil.w ⟨rfl, q⟩
theorem zgs_cons {v : V} {vs : List V} {Q : St → Hp → Prop} (h : ZG X e v σ H fun σ' H' => ZGs X es vs σ' H' Q) (hs : (assignEach (e :: es) X.env).map (·.2) = assign e X.env :: (assignEach es X.env).map (·.2) := by rfl) : ZGs X (e :: es) (v :: vs) σ H Q := (pgs_cons pg_wg pgs_wgs hs).w ⟨v, vs, rfl, h⟩
theorem zg_sub {v : V} {Q : St → Hp → Prop} (h : ZE X a σ H fun o H1 => ZE X b σ H1 fun i H2 => SetW X o i v H2 fun H3 => Q σ H3)
    (ha : ∀ v, assign (.Subscript a b pos) X.env v = (do
      let ov ← holding [v] (eval a X.env)
      let iv ← holding [v, ov] (eval b X.env)
      standAt pos
      holding [v, ov, iv] (setItem ov iv v)
      release [v, ov, iv] []) := by intro _; rfl) : ZG X (.Subscript a b pos) v σ H Q := (pg_sub pe_we pe_we set_w ha).w h
theorem zs_par (i j : Nat) {x y : Str} {px py pt : Pos} {kt k2 pt2} (hc : X.calm = true) (hN : X.N.Nodup) (hi : X.N[i]? = some x) (hj : X.N[j]? = some y) (hij : i ≠ j) (h : ZA X [a, b] σ H fun vs H1 => ∃ v w, vs = [v, w] ∧ nx ((σ.set i (some v)).set j (some w)) H1)
    (hx : X.env.scope.names.lookup x = some .local := by rfl) (hy : X.env.scope.names.lookup y = some .local := by rfl)
    (hw : swappedStores [.Tuple [.Name x px, .Name y py] kt pt] (.Tuple [a, b] k2 pt2) X.env = pure (some [x, y]) := by rfl)
    (hs : swapsWithSole [.Tuple [.Name x px, .Name y py] kt pt] (.Tuple [a, b] k2 pt2) pos.line X.env = pure false := by rfl) :
    ZS X (.Assign [.Tuple [.Name x px, .Name y py] kt pt] (.Tuple [a, b] k2 pt2) pos) nx rt bk ct σ H := (ps_par hc hN hi hj hij hx hy pa_wa hw hs).w h
theorem zs_aug (i : Nat) {x : Str} {v : V} {op : Operator} {pos' : Pos} (hN : X.N.Nodup) (hi : X.N[i]? = some x) (hv : σ[i]? = some (some v)) (h : ZE X e σ H fun y H1 => IpW X op v y H1 fun z H2 => nx (σ.set i (some z)) H2) (hx : Loc X.env.scope x := by first | exact Or.inl rfl | exact Or.inr rfl)
    (hf : X.fn x = true ∨ X.env.scope.names.lookup x = some .local := by first | exact .inl rfl | exact .inr rfl | assumption) : ZS X (.AugAssign (.Name x pos') op e pos) nx rt bk ct σ H := (ps_aug hN hi hx pe_we ip_w hf).w ⟨v, hv, h⟩
theorem zs_while (hp : PassesOwn (model X.prog X.w) X.A X.env X.xe) (h : ∃ W : Nat → St → Hp → Prop, (∃ m, W m σ H) ∧ ∀ m σ H, W m σ H →
  ZT X c σ H fun b H1 => if b = true then ∃ N : St → Hp → Prop, (∀ σ' H', N σ' H' → ∃ m', m' < m ∧ W m' σ' H') ∧ ZSs X sts N rt nx N σ H1 else nx σ H1) : ZS X (.While c sts [] pos) nx rt bk ct σ H := (ps_while hp pt_wt pss_wss).w h
theorem zs_for (hp : PassesOwn (model X.prog X.w) X.A X.env X.xe) (hc : X.calm = true) (h : ZI X a b σ H fun J H1 => ∃ W : Nat → Nat → St → Hp → Prop, (∃ m, W 0 m σ H1) ∧ ∀ i m σ H, W i m σ H →
  (J.stop i H ∧ nx σ H) ∨ (J.go i H ∧ ∃ N : St → Hp → Prop, (∀ σ' H', N σ' H' → ∃ m', m' < m ∧ W (i + 1) m' σ' H') ∧ ∀ x H', J.yld i H x H' → ZG X a x σ H' fun σ2 H2 => ZSs X sts N rt nx N σ2 H2))
    (hs : ∀ x, foldedSetIterable b X.env x = pure x := by intro _; rfl) : ZS X (.For a b sts [] pos) nx rt bk ct σ H := (ps_for hp hc pi_wi pg_wg pss_wss hs).w h
theorem zi_list {R : It → Hp → Prop} (h : ZE X b σ H fun x H1 => ∃ p, x = .ref p ∧ (∃ xs, SqL X.K H1 p xs) ∧ R (Itl X.K p) H1) : ZI X a b σ H R := (pi_list pe_we).w h
theorem zi_tup {R : It → Hp → Prop} (h : ZE X b σ H fun x H1 => ∃ p, x = .ref p ∧ (∃ xs, SqT X.K H1 p xs) ∧ R (Itt X.K p) H1) : ZI X a b σ H R := (pi_tup pe_we).w h
theorem zi_range1 {R : It → Hp → Prop} {p : Pos} (hm : X.mg "range" = none) (h : ZA X [e] σ H fun vs H1 => ∃ j : Int, vs = [.int j] ∧ -(2 ^ 62) ≤ j ∧ j < 2 ^ 62 ∧ R (Itr 0 j.toNat) H1) (hg : Gl X "range" := by rfl) (hs : starEach [e] X.env = [(false, eval e X.env)] := by rfl) : ZI X a (.Call (.Name "range" p) [e] [] pos) σ H R :=
  (pi_range1 hg hm pa_wa hs).w h
theorem zi_range2 {R : It → Hp → Prop} {p : Pos} (hm : X.mg "range" = none) (h : ZA X [e, b] σ H fun vs H1 => ∃ i j : Int, vs = [.int i, .int j] ∧ (-(2 ^ 62) ≤ i ∧ i < 2 ^ 62 ∧ -(2 ^ 62) ≤ j ∧ j < 2 ^ 62) ∧ R (Itr i (j - i).toNat) H1) (hg : Gl X "range" := by rfl) (hs : starEach [e, b] X.env = [(false, eval e X.env), (false, eval b X.env)] := by rfl) (hs2 : starEach [b] X.env = [(false, eval b X.env)] := by rfl) : ZI X a (.Call (.Name "range" p) [e, b] [] pos) σ H R :=
  (pi_range2 hg hm pa_wa hs hs2).w h

/-! ### raise, try -/
theorem zs_raise {c : Expr} {x : Str} {C fI : Addr} {nms : List Str} {j : Nat} {p pos2 : Pos} (hc : X.calm = true) (T : PySem.LX.ExcT X.K C) (iC : PySem.W.findIn X.K (.ref C) "__init__" = some (some (.ref fI))) (tC : PySem.W.typeIn X.K (.ref fI) = some (.type "function"))
    (IR : PySem.LX.InitRuns X.prog X.K X.mg C fI nms) (gC : X.mg x = some (.ref C)) (hr : Room j X.A)
    (h : ZA X (e :: es) σ H fun vs H1 => vs.length = nms.length ∧ nms.length ≤ 10 ∧ ∀ d, H1 d = none → XW X (.ref C) (some d) σ (upd H1 d (.xd (nms.zip vs).reverse))) (hg : Gl X x := by rfl)
    (hdb : (x == ("__debug__" : Str)) = false := by decide) (he : starEach (e :: es) X.env = (false, eval e X.env) :: starEach es X.env := by rfl) (hpl : (backTo pos (starEach es X.env)).any (·.1) = false := by rfl) :
    ZS X (.Raise (some (.Call (.Name x p) (e :: es) [] pos)) none pos2) nx rt bk ct σ H := (L2N.ps_raise hc takes_xw (pmk_x T iC tC IR gC hr pa_wa hg hdb he hpl)).w h
theorem zs_try_as {x n : Str} {k : Value} {i : Nat} {body suite : List Stmt} {b₀ : Stmt} {np pos' : Pos} (hs : X.stack = X.env :: X.outer) (hf : X.env.frame = some X.env.locals) (hN : X.N.Nodup) (hi : X.N[i]? = some n) (hln : X.env.kindOf n = some .local) (hc : Names X x k)
    (h : ∀ (pn : List (Addr × Obj)) (xe : Value → Shared → Prop), L2N.Takes (X.tr pn xe) (wAs X.K k i (fun a cls d D σ H => ∀ (oe : Obj) (pn : List (Addr × Obj)), L2N.Zn cls d oe → (∃ vs, oe.data = .fields vs) → ZSs (X.suite a ((a, oe) :: pn)) (b₀ :: suite) D.nx D.rt D.bk D.ct σ H) (XW X) ⟨nx, rt, bk, ct⟩) →
      PassesOwn (model X.prog X.w) X.A X.env xe → ZSs (X.tr pn xe) body nx rt bk ct σ H) :
    ZS X (.Try body [.ExceptHandler (some (.Name x np)) (some n) (b₀ :: suite) pos'] [] [] pos) nx rt bk ct σ H :=
  (L2N.ps_try_as (tb := fun W D σ H => ∀ (pn : List (Addr × Obj)) (xe : Value → Shared → Prop), L2N.Takes (X.tr pn xe) W → PassesOwn (model X.prog X.w) X.A X.env xe → ZSs (X.tr pn xe) body D.nx D.rt D.bk D.ct σ H) hs hf hN hi hln hc takes_xw
    (fun W pn xe tk hp => ⟨fun pins s σ H D I h => (h pn xe tk hp).run pins s I⟩) (fun a oe cls d pn hz hf => ⟨fun pins s σ H D I h => (h oe pn hz hf).run pins s I⟩)).w h
end

/-! ### the entry of a def -/
section
variable {P : Program} {w : World} {K : PySem.W.Frag} {mg : Str → Option Value} {base : Heap}
/-- the context of a def's body -/
abbrev cxN (P : Program) (w : World) (K : PySem.W.Frag) (mg : Str → Option Value) (base : Heap) (N : List Str) (qual : Str) (scope : Scope) (f : Addr) (cd : Value) (A : Around) (outer : List Env) (s : Shared) (H : Hp) (E : XK) : Cx := cxOf (L2N.CX P w) P w K mg base N qual scope f cd A outer s H E
theorem Fun.okN {x qual : Str} {st : Stmt} {f : Addr} {fd : FuncData} {N ps : List Str} {k : Nat} {sp : Sp} (F : Fun K x qual st f fd) (S : FnScope N ps (defScope st)) (len : ∀ vs H Q E, sp vs H Q E → vs.length = ps.length)
    (hbody : ∀ (cdv : Value) (A : Around) (outer : List Env) (s : Shared) (H : Hp) (vs : List V) (Q : VK) (E : XK), Room k (A.deeper (envOfC qual (defScope st) s.heap.objs.size f cdv)) → sp vs H Q E →
      ZSs (cxN P w K mg base N qual (defScope st) f cdv A outer s H E) (defBody st) (fun _ H' => Q .non H') Q (fun _ _ => False) (fun _ _ => False) (start N vs) H) : FnOk P w K mg base (L2N.CX P w) (k + 1) f fd ps sp := by
  obtain ⟨oc, od, kV, doc, pm, an, cdv, ct, osl, rfl, lk, hcd⟩ := F.ex
  exact fn_of lk hcd S len fun A outer s H vs Q E hr hsp => ⟨_, pss_wss, hbody cdv A outer s H vs Q E hr hsp⟩
theorem FunD.okN {x qual : Str} {params : Arguments} {body : List Stmt} {scope : Scope} {dvs : List V} {kws : List (Str × V)} {f : Addr} {fd : FuncData} {N ps : List Str} {k : Nat} {sp : Sp} (F : FunD K x qual params body scope dvs kws f fd) (S : FnScope N ps scope) (len : ∀ vs H Q E, sp vs H Q E → vs.length = ps.length)
    (hbody : ∀ (cdv : Value) (A : Around) (outer : List Env) (s : Shared) (H : Hp) (vs : List V) (Q : VK) (E : XK), Room k (A.deeper (envOfC qual scope s.heap.objs.size f cdv)) → sp vs H Q E →
      ZSs (cxN P w K mg base N qual scope f cdv A outer s H E) body (fun _ H' => Q .non H') Q (fun _ _ => False) (fun _ _ => False) (start N vs) H) : FnOk P w K mg base (L2N.CX P w) (k + 1) f fd ps sp :=
  F.ok S len fun cdv A outer s H vs Q E hr hsp => ⟨_, pss_wss, hbody cdv A outer s H vs Q E hr hsp⟩
/-- at the level of a def an exception leaves it -/
theorem xw_def {N : List Str} {qual : Str} {scope : Scope} {f : Addr} {cd : Value} {A : Around} {outer : List Env} {s : Shared} {H0 : Hp} {E : XK} {cls : Value} {d : Option Addr} {σ : St} {H : Hp} (h : E cls d H) : XW (cxN P w K mg base N qual scope f cd A outer s H0 E) cls d σ H :=
  xw_of (L2N.takes_of rfl rfl rfl rfl) h
theorem pass_def {N : List Str} {qual : Str} {scope : Scope} {f : Addr} {cd : Value} {A : Around} {outer : List Env} {s : Shared} {H0 : Hp} {E : XK} : PassesOwn (model P w) (cxN P w K mg base N qual scope f cd A outer s H0 E).A (cxN P w K mg base N qual scope f cd A outer s H0 E).env (cxN P w K mg base N qual scope f cd A outer s H0 E).xe := passes_of rfl
end
end L2

/-! The values' rules. -/
namespace L2
open PySem PySem.Spec PyProof.Rows
section
variable {X : Cx} {H : Hp} {Q : VK} {i j : Int} {x y : V} {p q : Addr} {xs ys : List V} {z w : Str}
theorem ow_add (h : Q (.int (i + j)) H) : OpW X σ (binaryOp .Add) (.int i) (.int j) H Q := op_add.w ⟨i, j, rfl, rfl, h⟩
theorem ow_sub (h : Q (.int (i - j)) H) : OpW X σ (binaryOp .Sub) (.int i) (.int j) H Q := op_sub.w ⟨i, j, rfl, rfl, h⟩
theorem ow_mul (hc : CMul i j) (h : Q (.int (i * j)) H) : OpW X σ (binaryOp .Mult) (.int i) (.int j) H Q := op_mul.w ⟨i, j, rfl, rfl, hc, h⟩
theorem ow_mulW (hc : CMulW i j) (h : Q (.int (i * j)) H) : OpW X σ (binaryOp .Mult) (.int i) (.int j) H Q := op_mulW.w ⟨i, j, rfl, rfl, hc, h⟩
theorem ow_mod (hc : 0 < j) (h : Q (.int (i % j)) H) : OpW X σ (binaryOp .Mod) (.int i) (.int j) H Q := op_mod.w ⟨i, j, rfl, rfl, hc, h⟩
theorem ow_fdiv (hc : CDiv i j) (h : Q (.int (i / j)) H) : OpW X σ (binaryOp .FloorDiv) (.int i) (.int j) H Q := op_fdiv.w ⟨i, j, rfl, rfl, hc, h⟩
theorem ow_fdivW (hc : CDivW i j) (h : Q (.int (i / j)) H) : OpW X σ (binaryOp .FloorDiv) (.int i) (.int j) H Q := op_fdivW.w ⟨i, j, rfl, rfl, hc, h⟩
theorem ow_pow (hc : CPow i j) (h : Q (.int (i ^ j.toNat)) H) : OpW X σ (binaryOp .Pow) (.int i) (.int j) H Q := op_pow.w ⟨i, j, rfl, rfl, hc, h⟩
theorem ow_adds (hc : z.length + w.length ≤ sizeLine) (h : Q (.str (z ++ w)) H) : OpW X σ (binaryOp .Add) (.str z) (.str w) H Q := op_add_str.w ⟨z, w, rfl, rfl, hc, h⟩
theorem ow_addl (h1 : H p = some (.lst xs)) (h2 : H q = some (.lst ys)) (hc : xs.length + ys.length ≤ sizeLine) (h : ∀ r, H r = none → Q (.ref r) (upd H r (.lst (xs ++ ys)))) : OpW X σ (binaryOp .Add) (.ref p) (.ref q) H Q := op_cat.w ⟨p, q, xs, ys, rfl, rfl, h1, h2, hc, h⟩
theorem ow_repl (h1 : H p = some (.lst xs)) (hc : -(2 ^ 63) ≤ i ∧ i < 2 ^ 63 ∧ xs.length * i.toNat ≤ sizeLine) (h : ∀ r, H r = none → Q (.ref r) (upd H r (.lst (List.replicate i.toNat xs).flatten))) : OpW X σ (binaryOp .Mult) (.ref p) (.int i) H Q := op_rep.w ⟨p, i, xs, rfl, rfl, h1, hc.1, hc.2.1, hc.2.2, h⟩
theorem ow_lt (h : Q (.bl (decide (i < j))) H) : OpW X σ (compareOp .Lt) (.int i) (.int j) H Q := op_lt.w ⟨i, j, rfl, rfl, h⟩
theorem ow_le (h : Q (.bl (decide (i ≤ j))) H) : OpW X σ (compareOp .LtE) (.int i) (.int j) H Q := op_le.w ⟨i, j, rfl, rfl, h⟩
theorem ow_gt (h : Q (.bl (decide (j < i))) H) : OpW X σ (compareOp .Gt) (.int i) (.int j) H Q := op_gt.w ⟨i, j, rfl, rfl, h⟩
theorem ow_ge (h : Q (.bl (decide (j ≤ i))) H) : OpW X σ (compareOp .GtE) (.int i) (.int j) H Q := op_ge.w ⟨i, j, rfl, rfl, h⟩
theorem ow_eqi (h : Q (.bl (decide (i = j))) H) : OpW X σ (compareOp .Eq) (.int i) (.int j) H Q := op_eq.w ⟨rfl, by
  have e : decide (V.int i = V.int j) = decide (i = j) := by simp
  rw [e]; exact h⟩
theorem ow_nei (h : Q (.bl (!decide (i = j))) H) : OpW X σ (compareOp .NotEq) (.int i) (.int j) H Q := op_ne.w ⟨rfl, by
  have e : decide (V.int i = V.int j) = decide (i = j) := by simp
  rw [e]; exact h⟩
theorem ow_eqs (h : Q (.bl (decide (z = w))) H) : OpW X σ (compareOp .Eq) (.str z) (.str w) H Q := op_eq.w ⟨rfl, by
  have e : decide (V.str z = V.str w) = decide (z = w) := by simp
  rw [e]; exact h⟩
theorem ow_nes (h : Q (.bl (!decide (z = w))) H) : OpW X σ (compareOp .NotEq) (.str z) (.str w) H Q := op_ne.w ⟨rfl, by
  have e : decide (V.str z = V.str w) = decide (z = w) := by simp
  rw [e]; exact h⟩
theorem ow_eqb {a b : Bool} (h : Q (.bl (decide (a = b))) H) : OpW X σ (compareOp .Eq) (.bl a) (.bl b) H Q := op_eq.w ⟨rfl, by
  have e : decide (V.bl a = V.bl b) = decide (a = b) := by simp
  rw [e]; exact h⟩
theorem ow_neb {a b : Bool} (h : Q (.bl (!decide (a = b))) H) : OpW X σ (compareOp .NotEq) (.bl a) (.bl b) H Q := op_ne.w ⟨rfl, by
  have e : decide (V.bl a = V.bl b) = decide (a = b) := by simp
  rw [e]; exact h⟩
theorem ow_isN (h : Q (.bl (decide (x = .non))) H) : OpW X σ (compareOp .Is) x .non H Q := op_isN.w ⟨rfl, h⟩
theorem ow_notN (h : Q (.bl (!decide (x = .non))) H) : OpW X σ (compareOp .IsNot) x .non H Q := op_notN.w ⟨rfl, h⟩
theorem ow_in (hs : SqL X.K H p xs ∨ SqT X.K H p xs) (hx : flatV x = true) (ha : xs.all flatV = true) (h : Q (.bl (inV x xs)) H) : OpW X σ (compareOp .In) x (.ref p) H Q := op_in_seq.w ⟨p, xs, rfl, hs, hx, ha, h⟩
theorem ow_notin (hs : SqL X.K H p xs ∨ SqT X.K H p xs) (hx : flatV x = true) (ha : xs.all flatV = true) (h : Q (.bl (!inV x xs)) H) : OpW X σ (compareOp .NotIn) x (.ref p) H Q := op_notIn_seq.w ⟨p, xs, rfl, hs, hx, ha, h⟩
theorem uw_neg (h : Q (.int (-i)) H) : UnW X (unaryOp .USub) (.int i) H Q := un_neg.w ⟨i, rfl, h⟩
theorem cw_lenq (hs : SqL X.K H p xs ∨ SqT X.K H p xs) (h : Q (.int xs.length) H) : CallW X (.builtin "len") [.ref p] H Q := call_len_seq.w ⟨p, xs, rfl, hs, h⟩
theorem cw_lens (hs : z.length ≤ sizeLine) (h : Q (.int z.length) H) : CallW X (.builtin "len") [.str z] H Q := call_len_str.w ⟨z, rfl, hs, h⟩
theorem cw_abs (h : Q (.int (if i < 0 then -i else i)) H) : CallW X (.builtin "abs") [.int i] H Q := call_abs.w ⟨i, rfl, h⟩
theorem cw_int (h : Q (.int i) H) : CallW X (.type "int") [.int i] H Q := call_int1.w (.inl ⟨i, rfl, h⟩)
theorem cw_intb {b : Bool} (h : Q (.int (if b then 1 else 0)) H) : CallW X (.type "int") [.bl b] H Q := call_int1.w (.inr ⟨b, rfl, h⟩)
theorem cw_booli (h : Q (.bl (i != 0)) H) : CallW X (.type "bool") [.int i] H Q := call_bool1.w (.inl ⟨i, rfl, h⟩)
theorem cw_boolb {b : Bool} (h : Q (.bl b) H) : CallW X (.type "bool") [.bl b] H Q := call_bool1.w (.inr ⟨b, rfl, h⟩)
theorem cw_isi {c : V} {t u : Value} {b : Bool} (hc : ClsV c u) (hx : TyX X.K H x t) (hk : PySem.W.kitOne X.K t u = some b) (h : Q (.bl b) H) : CallW X (.builtin "isinstance") [x, c] H Q := call_isi.w ⟨x, c, t, u, b, rfl, hc, hx, hk, h⟩
theorem cw_tuple (hs : SqL X.K H p xs) (h : ∀ r, H r = none → Q (.ref r) (upd H r (.tup xs))) : CallW X (.type "tuple") [.ref p] H Q := call_tuple_of.w ⟨p, xs, rfl, .inl ⟨hs, h⟩⟩
theorem cw_list (hs : SqL X.K H p xs ∨ SqT X.K H p xs) (h : ∀ r, H r = none → Q (.ref r) (upd H r (.lst xs))) : CallW X (.type "list") [.ref p] H Q := call_list_of.w ⟨p, xs, rfl, hs, h⟩
theorem cw_max2 (hc : X.calm = true) (h : Q (.int (if j > i then j else i)) H) : CallW X (.builtin "max") [.int i, .int j] H Q := (call_max2 hc).w ⟨i, j, rfl, h⟩
theorem cw_min2 (hc : X.calm = true) (h : Q (.int (if j < i then j else i)) H) : CallW X (.builtin "min") [.int i, .int j] H Q := (call_min2 hc).w ⟨i, j, rfl, h⟩
theorem cw_divmod (hc : CDiv i j) (h : ∀ r, H r = none → Q (.ref r) (upd H r (.tup [.int (i / j), .int (i % j)]))) : CallW X (.builtin "divmod") [.int i, .int j] H Q := call_divmod.w ⟨i, j, rfl, hc, h⟩
theorem xw_lst {v : V} (hs : SqL X.K H p xs) (hi : atI xs i = some v) (h : Q v H) : IxW X σ (.ref p) (.int i) H Q := ix_list.w ⟨p, xs, i, v, rfl, rfl, hs, hi, h⟩
theorem xw_tup {v : V} (hs : SqT X.K H p xs) (hi : atI xs i = some v) (h : Q v H) : IxW X σ (.ref p) (.int i) H Q := ix_tup.w ⟨p, xs, i, v, rfl, rfl, hs, hi, h⟩
theorem xw_str {c : Nat} (hz : z.length ≤ sizeLine) (hi : atI z.cps.toList i = some c) (h : Q (.str ⟨#[c]⟩) H) : IxW X σ (.str z) (.int i) H Q := ix_str.w ⟨z, i, c, rfl, rfl, hz, hi, h⟩
theorem sw_lst {v : V} {n : Nat} {Q : Hp → Prop} (hs : H p = some (.lst xs)) (hi : ixN xs.length i = some n) (h : Q (upd H p (.lst (xs.set n v)))) : SetW X (.ref p) (.int i) v H Q := set_list.w ⟨p, xs, i, n, rfl, rfl, hs, hi, h⟩
theorem mw_append (hs : H p = some (.lst xs)) (hz : xs.length < sizeLine) (h : Q .non (upd H p (.lst (xs ++ [y])))) : MtW X "list.append" (.ref p) [y] H Q := (show MtR X "list.append" rAppend from mt_append).w ⟨p, xs, y, rfl, rfl, hs, hz, h⟩
theorem aw_fld {C dx : Addr} {fs : List (Str × V)} {f : Str} {v : V} (e : H p = some (.ins C dx fs)) (c : Cls X.K C) (n : NoAttr X.K C f) (l : fs.lookup f = some v) (h : Q v H) : AtW X f (.ref p) H Q := ⟨fun pins s σ u I ru => by
  obtain rfl : u = Value.ref p := ru
  exact getattr_ok I e c n l fun u' s2 I2 ru => ⟨v, H, I2, ru, h⟩⟩
theorem aw_con {C dx : Addr} {fs : List (Str × V)} {f : Str} {v : V} {u0 : Value} (e : H p = some (.ins C dx fs)) (c : Cls X.K C) (k : Con X.K C f v u0) (l : fs.lookup f = none) (h : Q v H) : AtW X f (.ref p) H Q := ⟨fun pins s σ u I ru => by
  obtain rfl : u = Value.ref p := ru
  exact getcon_ok I e c k l fun s2 I2 => ⟨v, H, I2, k.rel, h⟩⟩
theorem iw_add (h : Q (.int (i + j)) H) : IpW X .Add (.int i) (.int j) H Q := ip_add.w ⟨i, j, rfl, rfl, h⟩
theorem iw_sub (h : Q (.int (i - j)) H) : IpW X .Sub (.int i) (.int j) H Q := ip_sub.w ⟨i, j, rfl, rfl, h⟩
theorem slw_lst {lo hi : Option Int} (hs : SqL X.K H p xs) (h : ∀ r, H r = none → Q (.ref r) (upd H r (.lst (cutV xs lo hi)))) : SlW X (.ref p) lo hi H Q := sl_list.w ⟨p, xs, rfl, hs, h⟩
theorem slw_str {lo hi : Option Int} (hz : z.length ≤ sizeLine) (h : Q (.str (cutS z lo hi)) H) : SlW X (.str z) lo hi H Q := sl_str.w ⟨z, rfl, hz, h⟩
end
/-- the built-in names that the text leaves as they are -/
structure Blt (mg : Str → Option Value) : Prop where
  len : mg "len" = none
  int : mg "int" = none
  abs : mg "abs" = none
  isi : mg "isinstance" = none
  range : mg "range" = none
  boo : mg "bool" = none
  str : mg "str" = none
  lst : mg "list" = none
  tup : mg "tuple" = none
  max : mg "max" = none
  min : mg "min" = none
  zip : mg "zip" = none
  srt : mg "sorted" = none
  rev : mg "reversed" = none
  dm : mg "divmod" = none
  enu : mg "enumerate" = none
  sum : mg "sum" = none
  ve : mg "ValueError" = none
section
variable {X : Cx} {e b : Expr} {es : List Expr} {σ : St} {H : Hp} {Q : VK} {p pos : Pos}
theorem zc_len (B : Blt X.mg) (h : ZA X (e :: es) σ H fun vs H1 => CallW X (.builtin "len") vs H1 Q) (hg : Gl X "len" := by rfl) (he : starEach (e :: es) X.env = (false, eval e X.env) :: starEach es X.env := by rfl) (hpl : (backTo pos (starEach es X.env)).any (·.1) = false := by rfl) : ZE X (.Call (.Name "len" p) (e :: es) [] pos) σ H Q := ze_callB B.len boot_len h hg (by decide) (by decide) he hpl
theorem zc_abs (B : Blt X.mg) (h : ZA X (e :: es) σ H fun vs H1 => CallW X (.builtin "abs") vs H1 Q) (hg : Gl X "abs" := by rfl) (he : starEach (e :: es) X.env = (false, eval e X.env) :: starEach es X.env := by rfl) (hpl : (backTo pos (starEach es X.env)).any (·.1) = false := by rfl) : ZE X (.Call (.Name "abs" p) (e :: es) [] pos) σ H Q := ze_callB B.abs (by decide +kernel) h hg (by decide) (by decide) he hpl
theorem zc_isi (B : Blt X.mg) (h : ZA X (e :: es) σ H fun vs H1 => CallW X (.builtin "isinstance") vs H1 Q) (hg : Gl X "isinstance" := by rfl) (he : starEach (e :: es) X.env = (false, eval e X.env) :: starEach es X.env := by rfl) (hpl : (backTo pos (starEach es X.env)).any (·.1) = false := by rfl) : ZE X (.Call (.Name "isinstance" p) (e :: es) [] pos) σ H Q := ze_callB B.isi (by decide +kernel) h hg (by decide) (by decide) he hpl
theorem zc_max (B : Blt X.mg) (h : ZA X (e :: es) σ H fun vs H1 => CallW X (.builtin "max") vs H1 Q) (hg : Gl X "max" := by rfl) (he : starEach (e :: es) X.env = (false, eval e X.env) :: starEach es X.env := by rfl) (hpl : (backTo pos (starEach es X.env)).any (·.1) = false := by rfl) : ZE X (.Call (.Name "max" p) (e :: es) [] pos) σ H Q := ze_callB B.max (by decide +kernel) h hg (by decide) (by decide) he hpl
theorem zc_min (B : Blt X.mg) (h : ZA X (e :: es) σ H fun vs H1 => CallW X (.builtin "min") vs H1 Q) (hg : Gl X "min" := by rfl) (he : starEach (e :: es) X.env = (false, eval e X.env) :: starEach es X.env := by rfl) (hpl : (backTo pos (starEach es X.env)).any (·.1) = false := by rfl) : ZE X (.Call (.Name "min" p) (e :: es) [] pos) σ H Q := ze_callB B.min (by decide +kernel) h hg (by decide) (by decide) he hpl
theorem zc_dm (B : Blt X.mg) (h : ZA X (e :: es) σ H fun vs H1 => CallW X (.builtin "divmod") vs H1 Q) (hg : Gl X "divmod" := by rfl) (he : starEach (e :: es) X.env = (false, eval e X.env) :: starEach es X.env := by rfl) (hpl : (backTo pos (starEach es X.env)).any (·.1) = false := by rfl) : ZE X (.Call (.Name "divmod" p) (e :: es) [] pos) σ H Q := ze_callB B.dm (by decide +kernel) h hg (by decide) (by decide) he hpl
theorem zc_int (B : Blt X.mg) (h : ZA X (e :: es) σ H fun vs H1 => CallW X (.type "int") vs H1 Q) (hg : Gl X "int" := by rfl) (he : starEach (e :: es) X.env = (false, eval e X.env) :: starEach es X.env := by rfl) (hpl : (backTo pos (starEach es X.env)).any (·.1) = false := by rfl) : ZE X (.Call (.Name "int" p) (e :: es) [] pos) σ H Q := ze_callT B.int (by decide +kernel) h hg (by decide) (by decide) he hpl
theorem zc_boo (B : Blt X.mg) (h : ZA X (e :: es) σ H fun vs H1 => CallW X (.type "bool") vs H1 Q) (hg : Gl X "bool" := by rfl) (he : starEach (e :: es) X.env = (false, eval e X.env) :: starEach es X.env := by rfl) (hpl : (backTo pos (starEach es X.env)).any (·.1) = false := by rfl) : ZE X (.Call (.Name "bool" p) (e :: es) [] pos) σ H Q := ze_callT B.boo (by decide +kernel) h hg (by decide) (by decide) he hpl
theorem zc_tup (B : Blt X.mg) (h : ZA X (e :: es) σ H fun vs H1 => CallW X (.type "tuple") vs H1 Q) (hg : Gl X "tuple" := by rfl) (he : starEach (e :: es) X.env = (false, eval e X.env) :: starEach es X.env := by rfl) (hpl : (backTo pos (starEach es X.env)).any (·.1) = false := by rfl) : ZE X (.Call (.Name "tuple" p) (e :: es) [] pos) σ H Q := ze_callT B.tup (by decide +kernel) h hg (by decide) (by decide) he hpl
theorem zc_lst (B : Blt X.mg) (h : ZA X (e :: es) σ H fun vs H1 => CallW X (.type "list") vs H1 Q) (hg : Gl X "list" := by rfl) (he : starEach (e :: es) X.env = (false, eval e X.env) :: starEach es X.env := by rfl) (hpl : (backTo pos (starEach es X.env)).any (·.1) = false := by rfl) : ZE X (.Call (.Name "list" p) (e :: es) [] pos) σ H Q := ze_callT B.lst (by decide +kernel) h hg (by decide) (by decide) he hpl
theorem zc_str (B : Blt X.mg) (h : ZA X (e :: es) σ H fun vs H1 => CallW X (.type "str") vs H1 Q) (hg : Gl X "str" := by rfl) (he : starEach (e :: es) X.env = (false, eval e X.env) :: starEach es X.env := by rfl) (hpl : (backTo pos (starEach es X.env)).any (·.1) = false := by rfl) : ZE X (.Call (.Name "str" p) (e :: es) [] pos) σ H Q := ze_callT B.str (by decide +kernel) h hg (by decide) (by decide) he hpl
/-- a built-in class as a value -/
theorem zn_int (B : Blt X.mg) (h : Q (.ty "int") H) (hg : Gl X "int" := by rfl) : ZE X (.Name "int" pos) σ H Q := ze_bltn B.int (v := .ty "int") (u := .type "int") (by decide +kernel) rfl h hg (by decide) (by decide)
theorem zn_boo (B : Blt X.mg) (h : Q (.ty "bool") H) (hg : Gl X "bool" := by rfl) : ZE X (.Name "bool" pos) σ H Q := ze_bltn B.boo (v := .ty "bool") (u := .type "bool") (by decide +kernel) rfl h hg (by decide) (by decide)
theorem zn_str (B : Blt X.mg) (h : Q (.ty "str") H) (hg : Gl X "str" := by rfl) : ZE X (.Name "str" pos) σ H Q := ze_bltn B.str (v := .ty "str") (u := .type "str") (by decide +kernel) rfl h hg (by decide) (by decide)
theorem zn_lst (B : Blt X.mg) (h : Q (.ty "list") H) (hg : Gl X "list" := by rfl) : ZE X (.Name "list" pos) σ H Q := ze_bltn B.lst (v := .ty "list") (u := .type "list") (by decide +kernel) rfl h hg (by decide) (by decide)
theorem zn_tup (B : Blt X.mg) (h : Q (.ty "tuple") H) (hg : Gl X "tuple" := by rfl) : ZE X (.Name "tuple" pos) σ H Q := ze_bltn B.tup (v := .ty "tuple") (u := .type "tuple") (by decide +kernel) rfl h hg (by decide) (by decide)
theorem zn_ve (B : Blt X.mg) (h : Q (.ty "ValueError") H) (hg : Gl X "ValueError" := by rfl) : ZE X (.Name "ValueError" pos) σ H Q := ze_bltn B.ve (v := .ty "ValueError") (u := .type "ValueError") (by decide +kernel) rfl h hg (by decide) (by decide)
end
end L2
namespace L2
theorem zite_d {c A B : Prop} [Decidable c] (h1 : c → A) (h2 : ¬ c → B) : if decide c = true then A else B := by
  by_cases h : c
  · rw [if_pos (decide_eq_true h)]; exact h1 h
  · rw [if_neg (by simp [h])]; exact h2 h
theorem zite_n {c A B : Prop} [Decidable c] (h1 : ¬ c → A) (h2 : c → B) : if (!decide c) = true then A else B := by
  by_cases h : c
  · rw [if_neg (by simp [h])]; exact h2 h
  · rw [if_pos (by simp [h])]; exact h1 h
theorem zite_b {b : Bool} {A B : Prop} (h1 : b = true → A) (h2 : b = false → B) : if b = true then A else B := by
  cases b
  · exact h2 rfl
  · exact h1 rfl
theorem zite_nb {b : Bool} {A B : Prop} (h1 : b = false → A) (h2 : b = true → B) : if (!b) = true then A else B := by
  cases b
  · exact h1 rfl
  · exact h2 rfl
end L2
namespace L2
open PySem PySem.Spec PyProof.Rows
theorem atI_lt {α : Type} {xs : List α} {i : Int} (h0 : 0 ≤ i) (h1 : i < xs.length) : ∃ v, xs[i.toNat]? = some v ∧ atI xs i = some v := by
  have h2 : i.toNat < xs.length := by omega
  refine ⟨xs[i.toNat], List.getElem?_eq_getElem h2, ?_⟩
  have := atI_nat (j := i.toNat) (List.getElem?_eq_getElem h2)
  rwa [Int.toNat_of_nonneg h0] at this
theorem map_get {α β : Type} {f : α → β} {xs : List α} {n : Nat} {v : β} (h : (xs.map f)[n]? = some v) : ∃ x, xs[n]? = some x ∧ v = f x := by
  rw [List.getElem?_map] at h
  cases e : xs[n]? with
  | none => rw [e] at h; cases h
  | some x => rw [e] at h; exact ⟨x, rfl, (Option.some.inj h).symm⟩
/-- the law's source: its object, by its places (the script's list at q) -/
def SrcO (p q : Addr) : HO := .ext fun h => ∃ (i x1 x2 x3 : Int) (t0 t1 t2 t3 : Tok) (n : Nat), 0 ≤ i ∧ h.get? p = some { cls := .type "list", data := .seq #[.int i t0, .int x1 t1, .int x2 t2, .int x3 t3, .ref q] n }
def Src (H : Hp) (p : Addr) : Prop := ∃ (q : Addr) (ns : List Int), H p = some (SrcO p q) ∧ H q = some (.lst (ns.map V.int)) ∧ ns.length ≤ 1000
def srcL (i x1 x2 x3 : Int) (q : Addr) : HO := .lst [.int i, .int x1, .int x2, .int x3, .ref q]
def spDraw1 : Sp := fun vs H Q _ => ∃ (p q : Addr) (many i x1 x2 x3 : Int) (ns : List Int), vs = [.ref p, .int many] ∧ 0 < many ∧ many < 1073741824 ∧ H p = some (srcL i x1 x2 x3 q) ∧ 0 ≤ i ∧ H q = some (.lst (ns.map V.int)) ∧ ns.length ≤ 1000 ∧
  ∀ v i' x1' x2' x3', 0 ≤ v → v < many → 0 ≤ i' → Q (.int v) (upd H p (srcL i' x1' x2' x3' q))
def spDraw : Sp := fun vs H Q _ => ∃ (p : Addr) (many : Int), vs = [.ref p, .int many] ∧ 0 < many ∧ many < 1073741824 ∧ Src H p ∧ ∀ v, 0 ≤ v → v < many → Q (.int v) H
def spSrc1 (K : PySem.W.Frag) : Sp := fun vs H Q _ => ∃ (a : Addr) (ns : List Int), vs = [.ref a] ∧ SqL K H a (ns.map V.int) ∧ ns.length ≤ 1000 ∧ ∀ p q H', H p = none → H q = none → Same H H' → p ≠ q → H' p = some (srcL 0 0 0 0 q) → H' q = some (.lst (ns.map V.int)) → Q (.ref p) H'
def spSrc (K : PySem.W.Frag) : Sp := fun vs H Q _ => ∃ (a : Addr) (ns : List Int), vs = [.ref a] ∧ SqL K H a (ns.map V.int) ∧ ns.length ≤ 1000 ∧ ∀ p H', H p = none → Same H H' → Src H' p → Q (.ref p) H'
theorem ext_ne_tup {φ : Heap → Prop} {xs : List V} : HO.ext φ ≠ .tup xs := fun z => by cases z
theorem ext_ne_own {φ : Heap → Prop} {x : Addr} : HO.ext φ ≠ .own x := fun z => by cases z
theorem ext_ne_frz {φ : Heap → Prop} {o : Obj} {u : HO} : HO.ext φ ≠ .frz o u := fun z => by cases z
theorem ext_ne_tbl {φ : Heap → Prop} {ps : Array Value} : HO.ext φ ≠ .tbl ps := fun z => by cases z
theorem upd_none {H : Hp} {p b : Addr} {o u : HO} (hp : H p = some o) : upd H p u b = none ↔ H b = none := by
  by_cases e : b = p
  · subst e
    rw [upd_same, hp]
    simp
  · rw [upd_ne e]
section
variable {P : Program} {w : World} {K : PySem.W.Frag} {mg : Str → Option Value} {base : Heap} {CX : CXT} {k : Nat} {f : Addr} {fd : FuncData} {ps : List Str}
/-- an object's content is read in another way: the rest of the heap is told as before -/
theorem ObjOk.reread {H : Hp} {h : Heap} {p a : Addr} {o u v : HO} (hp : H p = some u) (n1 : ∀ x, u ≠ .own x) (n2 : ∀ xs, u ≠ .tup xs) (x : ObjOk P w H h a o) : ObjOk P w (upd H p v) h a o :=
  x.stay (fun _ _ _ z => z) (fun b hb => by rw [upd_ne (fun e => n1 _ (by rw [e, hp] at hb; exact Option.some.inj hb))]; exact hb) (fun b xs hb => by rw [upd_ne (fun e => n2 _ (by rw [e, hp] at hb; exact Option.some.inj hb))]; exact hb)
theorem Un.reread {fs : List Addr} {H : Hp} {h h' : Heap} {p : Addr} {u v v' : HO} (hp : H p = some u) (n2 : ∀ xs, u ≠ .tup xs) (n3 : ∀ o x, u ≠ .frz o x) (n4 : ∀ ps, u ≠ .tbl ps) (x : Un fs [] (upd H p v) (upd H p v') h h') : Un fs [] H H h h' where
  keep := fun b o e n => x.keep b o e ((upd_none hp).mpr n)
  slot := fun b o e n => x.slot b o e ((upd_none hp).mpr n)
  free := fun b o e n _ => n
  there := x.there
  tups := fun b xs e => e
  frzs := fun b o u e => e
  tbls := fun b ps e => ⟨#[], by rw [Array.append_empty]; exact e⟩
theorem draw_hide (F : FnOk P w K mg base CX k f fd ps spDraw1) (hCX : ∀ outer H s E e s', (∀ c d H', ¬ E c d H') → ¬ CX outer H s E e s') : FnOk P w K mg base CX k f fd ps spDraw := by
  refine ⟨fun vs H Q E h => ?_, fun A outer s H args us vs Q E hr e0 hb r h => ?_⟩
  · obtain ⟨p, many, rfl, h1, h2, ⟨q, ns, hp, hq, hl⟩, _⟩ := h
    have z : spDraw1 [.ref p, .int many] (upd (upd (fun _ => none) p (srcL 0 0 0 0 (p + 1))) (p + 1) (.lst (([] : List Int).map V.int))) (fun _ _ => True) E :=
      ⟨p, p + 1, many, 0, 0, 0, 0, [], rfl, h1, h2, by rw [upd_ne (Nat.ne_of_lt (Nat.lt_succ_self p)), upd_same], Int.le_refl _, upd_same, by simp, fun _ _ _ _ _ _ _ _ => trivial⟩
    exact F.len _ _ _ _ z
  · obtain ⟨p, many, rfl, h1, h2, ⟨q, ns, hp, hq, hl⟩, hQ⟩ := h
    obtain ⟨⟨i, x1, x2, x3, t0, t1, t2, t3, n, hi, hg⟩, -, -⟩ := (show ObjOk P w H s.heap p (SrcO p q) from e0.hok p _ hp)
    have n1 : ∀ x, SrcO p q ≠ .own x := fun x => ext_ne_own
    have n2 : ∀ xs, SrcO p q ≠ .tup xs := fun x => ext_ne_tup
    have n3 : ∀ o x, SrcO p q ≠ .frz o x := fun o x => ext_ne_frz
    have n4 : ∀ ps, SrcO p q ≠ .tbl ps := fun x => ext_ne_tbl
    have npq : q ≠ p := fun e => by
      rw [e, hp] at hq
      have z := Option.some.inj hq
      unfold SrcO at z
      cases z
    have e1 : Env0 P w K mg base A outer s (upd H p (srcL i x1 x2 x3 q)) := {
      frames := e0.frames
      mod := e0.mod
      bs := fun b o e => ⟨(e0.bs b o e).1, (upd_none hp).mpr (e0.bs b o e).2⟩
      bsz := e0.bsz
      funs := e0.funs
      frf := fun b hb => (upd_none hp).mpr (e0.frf b hb)
      hok := fun a o e => by
        by_cases ea : a = p
        · subst ea
          rw [upd_same] at e
          cases e
          exact ⟨(by show 5 ≤ sizeLine; decide), [.int i t0, .int x1 t1, .int x2 t2, .int x3 t3, .ref q], n, .cons ⟨_, rfl⟩ (.cons ⟨_, rfl⟩ (.cons ⟨_, rfl⟩ (.cons ⟨_, rfl⟩ (.cons rfl .nil)))), hg⟩
        · rw [upd_ne ea] at e
          exact (e0.hok a o e).reread hp n1 n2
      bare := e0.bare }
    refine codeAny_mono (F.run A outer s _ args us _ (fun v H' => ∃ z i' x1' x2' x3', v = .int z ∧ 0 ≤ z ∧ z < many ∧ 0 ≤ i' ∧ H' = upd H p (srcL i' x1' x2' x3' q)) (fun _ _ _ => False) hr e1 hb r
      ⟨p, q, many, i, x1, x2, x3, ns, rfl, h1, h2, upd_same, hi, by rw [upd_ne npq]; exact hq, hl, fun v i' x1' x2' x3' a b c => ⟨v, i', x1', x2', x3', rfl, a, b, c, upd_upd⟩⟩) fun r s' hq' => ?_
    cases r with
    | error e => exact absurd hq' (hCX _ _ _ _ _ _ fun _ _ _ z => z)
    | ok fl =>
      cases fl with
      | ret u =>
        obtain ⟨v, H', os2, bare2, un2, hok2, rv, z, i', x1', x2', x3', rfl, a, b, c, rfl⟩ := hq'
        refine ⟨.int z, H, os2, bare2, un2.reread hp n2 n3 n4, fun a o e => ?_, rv, hQ z a b⟩
        by_cases ea : a = p
        · subst ea
          rw [hp] at e
          cases e
          obtain ⟨_, its, n', vv, gg⟩ := (show ObjOk P w _ s'.heap a (.lst [.int i', .int x1', .int x2', .int x3', .ref q]) from hok2 a _ upd_same)
          cases vv with
          | cons r1 vv => cases vv with
            | cons r2 vv => cases vv with
              | cons r3 vv => cases vv with
                | cons r4 vv => cases vv with
                  | cons r5 vv =>
                    cases vv
                    obtain ⟨_, rfl⟩ := r1
                    obtain ⟨_, rfl⟩ := r2
                    obtain ⟨_, rfl⟩ := r3
                    obtain ⟨_, rfl⟩ := r4
                    cases r5
                    refine ⟨⟨i', x1', x2', x3', _, _, _, _, n', c, gg⟩, ⟨_, gg⟩, fun h1 h2 ⟨j, y1, y2, y3, u0, u1, u2, u3, m, hj, hm⟩ kk => ⟨j, y1, y2, y3, u0, u1, u2, u3, m, hj, kk _ hm⟩⟩
        · have e' : upd H p (srcL i' x1' x2' x3' q) a = some o := by rw [upd_ne ea]; exact e
          have x := hok2 a o e'
          have y := ObjOk.reread (H := upd H p (srcL i' x1' x2' x3' q)) (p := p) (u := srcL i' x1' x2' x3' q) (v := SrcO p q) upd_same (fun x z => by cases z) (fun x z => by cases z) x
          have e2 : upd (upd H p (srcL i' x1' x2' x3' q)) p (SrcO p q) = H := by
            rw [upd_upd]
            funext b
            by_cases hb : b = p
            · rw [hb, upd_same, hp]
            · rw [upd_ne hb]
          rw [e2] at y
          exact y
      | next => exact False.elim hq'
      | brk => exact False.elim hq'
      | cont => exact False.elim hq'
theorem src_hide (F : FnOk P w K mg base CX k f fd ps (spSrc1 K)) (hCX : ∀ outer H s E e s', (∀ c d H', ¬ E c d H') → ¬ CX outer H s E e s') : FnOk P w K mg base CX k f fd ps (spSrc K) := by
  refine ⟨fun vs H Q E h => ?_, fun A outer s H args us vs Q E hr e0 hb r h => ?_⟩
  · obtain ⟨a, ns, rfl, h1, h2, h3⟩ := h
    exact F.len [.ref a] H (fun _ _ => True) E ⟨a, ns, rfl, h1, h2, fun _ _ _ _ _ _ _ _ _ => trivial⟩
  · obtain ⟨a, ns, rfl, h1, h2, hQ⟩ := h
    refine codeAny_mono (F.run A outer s _ args us _ (fun v H' => ∃ p q, v = .ref p ∧ H p = none ∧ Same H H' ∧ p ≠ q ∧ H' p = some (srcL 0 0 0 0 q) ∧ H' q = some (.lst (ns.map V.int))) (fun _ _ _ => False) hr e0 hb r
      ⟨a, ns, rfl, h1, h2, fun p q H' a1 _ a2 a3 a4 a5 => ⟨p, q, rfl, a1, a2, a3, a4, a5⟩⟩) fun r s' hq' => ?_
    cases r with
    | error e => exact absurd hq' (hCX _ _ _ _ _ _ fun _ _ _ z => z)
    | ok fl =>
      cases fl with
      | ret u =>
        obtain ⟨v, H', os2, bare2, un2, hok2, rv, p, q, rfl, np, sm, npq, hp, hqq⟩ := hq'
        have n1 : ∀ x, srcL 0 0 0 0 q ≠ .own x := fun x z => by cases z
        have n2 : ∀ xs, srcL 0 0 0 0 q ≠ .tup xs := fun x z => by cases z
        refine ⟨.ref p, upd H' p (SrcO p q), os2, bare2, ?_, fun b o e => ?_, rv, hQ p _ np (fun b o e => ?_) ⟨q, ns, upd_same, by rw [upd_ne npq.symm]; exact hqq, h2⟩⟩
        · exact {
            keep := un2.keep
            slot := un2.slot
            free := fun b o e n nx => (upd_none hp).mpr (un2.free b o e n nx)
            there := un2.there
            tups := fun b xs e => by rw [upd_ne (ne_of_none e np)]; exact un2.tups b xs e
            frzs := fun b o u e => by rw [upd_ne (ne_of_none e np)]; exact un2.frzs b o u e
            tbls := fun b ps e => by rw [upd_ne (ne_of_none e np)]; exact un2.tbls b ps e }
        · by_cases ea : b = p
          · subst ea
            rw [upd_same] at e
            cases e
            obtain ⟨_, its, n', vv, gg⟩ := (show ObjOk P w _ s'.heap b (.lst [.int 0, .int 0, .int 0, .int 0, .ref q]) from hok2 b _ hp)
            cases vv with
            | cons r1 vv => cases vv with
              | cons r2 vv => cases vv with
                | cons r3 vv => cases vv with
                  | cons r4 vv => cases vv with
                    | cons r5 vv =>
                      cases vv
                      obtain ⟨_, rfl⟩ := r1
                      obtain ⟨_, rfl⟩ := r2
                      obtain ⟨_, rfl⟩ := r3
                      obtain ⟨_, rfl⟩ := r4
                      cases r5
                      refine ⟨⟨0, 0, 0, 0, _, _, _, _, n', Int.le_refl _, gg⟩, ⟨_, gg⟩, fun h1 h2 ⟨j, y1, y2, y3, u0, u1, u2, u3, m, hj, hm⟩ kk => ⟨j, y1, y2, y3, u0, u1, u2, u3, m, hj, kk _ hm⟩⟩
          · rw [upd_ne ea] at e
            exact (hok2 b o e).reread hp n1 n2
        · rw [upd_ne (ne_of_none e np)]
          exact sm b o e
      | next => exact False.elim hq'
      | brk => exact False.elim hq'
      | cont => exact False.elim hq'
theorem cxn_no {outer : List Env} {H : Hp} {s : Shared} {E : XK} {e : Value} {s' : Shared} (h : ∀ c d H', ¬ E c d H') : ¬ L2N.CX P w outer H s E e s' := fun ⟨_, _, _, _, _, _, _, _, _, _, _, _, z⟩ => h _ _ _ z
def noT : HO → Prop
  | .dT _ => False
  | .frz _ u => noT u
  | _ => True
theorem ObjOk.forget {H H' : Hp} {h h' : Heap} {a : Addr} {o : HO} (n : noT o) (x0 : ObjOk P w H h a o) (z : ObjOk P w H' h' a o) : ObjOk P w H h' a o := by
  induction o with
  | lst xs => exact z
  | tup xs => exact z
  | dK kvs => exact z
  | dT kvs => exact n.elim
  | set S n => exact z
  | ins C dx fs => exact ⟨x0.1, z.2⟩
  | own y => exact z
  | xd fs => exact z
  | rng lo hi => exact z
  | frz ob u ih => exact ⟨z.1, ih n x0.2 z.2⟩
  | tbl ps => exact z
  | met f y => exact z
  | ext φ => exact z
/-- what a call has tracked beside what stood before is let go, where its value needs none of it -/
theorem HOk.forget {H H' : Hp} {h h' : Heap} (nt : ∀ a o, H a = some o → noT o) (x : HOk P w H h) (y : HOk P w H' h') (sm : Same H H') : HOk P w H h' := fun a o e =>
  (x a o e).forget (nt a o e) (y a o (sm a o e))
/-- a def whose value is no object: what it makes on its way is let go -/
theorem FnOk.forget {sp : Sp} (F : FnOk P w K mg base CX k f fd ps sp) (hCX : ∀ outer H s E e s', (∀ c d H', ¬ E c d H') → ¬ CX outer H s E e s') :
    FnOk P w K mg base CX k f fd ps (fun vs H Q _ => (∀ a o, H a = some o → noT o) ∧ sp vs H (fun v H' => Same H H' ∧ Q v H) (fun _ _ _ => False)) := by
  refine ⟨fun vs H Q E h => F.len vs H _ _ h.2, fun A outer s H args us vs Q E hr e0 hb r h => ?_⟩
  refine codeAny_mono (F.run A outer s H args us vs _ _ hr e0 hb r h.2) fun r s' hq' => ?_
  cases r with
  | error e => exact absurd hq' (hCX _ _ _ _ _ _ fun _ _ _ z => z)
  | ok fl =>
    cases fl with
    | ret u =>
      obtain ⟨v, H', os2, bare2, un2, hok2, rv, sm, q⟩ := hq'
      exact ⟨v, H, os2, bare2, { keep := un2.keep, slot := un2.slot, free := fun b o e n _ => n, there := un2.there, tups := fun b xs e => e, frzs := fun b o u e => e, tbls := fun b ps e => ⟨#[], by rw [Array.append_empty]; exact e⟩ }, e0.hok.forget h.1 hok2 sm, rv, q⟩
    | next => exact False.elim hq'
    | brk => exact False.elim hq'
    | cont => exact False.elim hq'
end
end L2
namespace L2
open PySem PySem.Spec PyProof.Rows
theorem iteP {b : Bool} {A B : Prop} (h : b = true) (k : A) : if b = true then A else B := by rw [if_pos h]; exact k
theorem iteN {b : Bool} {A B : Prop} (h : b = false) (k : B) : if b = true then A else B := by rw [h, if_neg Bool.false_ne_true]; exact k
theorem upd_id {H : Hp} {p : Addr} {o : HO} (h : H p = some o) : upd H p o = H := by
  funext b
  by_cases e : b = p
  · rw [e, upd_same, h]
  · rw [upd_ne e]
end L2

/-! The rules as the steps take them: names by an explicit list, side conditions apart. -/
namespace L2
open PySem PySem.Spec PyProof.Rows
/-- the name x stands at place i, with v -/
inductive At : List Str → St → Str → Nat → V → Prop
  | here {x : Str} {N : List Str} {σ : St} {v : V} : At (x :: N) (some v :: σ) x 0 v
  | there {x n : Str} {N : List Str} {σ : St} {s : Option V} {v : V} {i : Nat} : At N σ x i v → At (n :: N) (s :: σ) x (i + 1) v
/-- the name x is stored: σ' -/
inductive SetAt : List Str → St → Str → Nat → V → St → Prop
  | here {x : Str} {N : List Str} {σ : St} {s : Option V} {v : V} : SetAt (x :: N) (s :: σ) x 0 v (some v :: σ)
  | there {x n : Str} {N : List Str} {σ σ' : St} {s : Option V} {v : V} {i : Nat} : SetAt N σ x i v σ' → SetAt (n :: N) (s :: σ) x (i + 1) v (s :: σ')
theorem At.get {N : List Str} {σ : St} {x : Str} {i : Nat} {v : V} (h : At N σ x i v) : N[i]? = some x ∧ σ[i]? = some (some v) := by
  induction h with
  | here => exact ⟨rfl, rfl⟩
  | there _ ih => exact ⟨by simpa using ih.1, by simpa using ih.2⟩
theorem SetAt.get {N : List Str} {σ σ' : St} {x : Str} {i : Nat} {v : V} (h : SetAt N σ x i v σ') : N[i]? = some x ∧ σ.set i (some v) = σ' := by
  induction h with
  | here => exact ⟨rfl, rfl⟩
  | there _ ih => exact ⟨by simpa using ih.1, by simpa using ih.2⟩
/-- the names of a def: the first M are its own -/
structure NOk (N : List Str) (M : Nat) (sc : Scope) : Prop where
  nd : N.Nodup
  ok : ∀ x ∈ N.take M, (sc.names.lookup x = some .local ∨ sc.names.lookup x = some .cell) ∧ (x == ("__debug__" : Str)) = false ∧ (x == ("__classdict__" : Str)) = false
theorem NOk.at {N : List Str} {M : Nat} {sc : Scope} (h : NOk N M sc) {i : Nat} {x : Str} (hi : i < M) (e : N[i]? = some x) : Loc sc x ∧ (x == ("__debug__" : Str)) = false ∧ (x == ("__classdict__" : Str)) = false :=
  h.ok x (by
    have : (N.take M)[i]? = some x := by rw [List.getElem?_take_of_lt hi]; exact e
    exact List.mem_of_getElem? this)
theorem Loc.vis {sc : Scope} {x : Str} (h : Loc sc x) : Vis sc x := h.elim .inl fun z => .inr (.inl z)
section
variable {X : Cx} {e a b c : Expr} {es : List Expr} {st : Stmt} {sts rest : List Stmt} {σ σ' : St} {H : Hp} {Q : VK} {nx bk ct : NX} {rt : VK} {pos p : Pos} {N : List Str} {M i : Nat} {x : Str} {v : V}
theorem s_name {sc : Scope} (S : NOk N M sc) (at_ : At N σ x i v) (hi : i < M) (hN : X.N = N ∧ X.env.scope = sc) (q : Q v H) : ZE X (.Name x pos) σ H Q :=
  ze_var i (by rw [hN.1]; exact at_.get.1) at_.get.2 q (by rw [hN.2]; exact (S.at hi at_.get.1).1.vis) (S.at hi at_.get.1).2.1 (S.at hi at_.get.1).2.2
theorem s_set {pos' : Pos} {sc : Scope} (S : NOk N M sc) (hN : X.N = N ∧ X.env.scope = sc) (hf : X.fn x = true) (h : ZE X e σ H fun v H1 => ∃ i σ', SetAt N σ x i v σ' ∧ i < M ∧ nx σ' H1) (hs : swapsWith e (some (.Name x pos')) pos.line X.env = pure false) : ZS X (.Assign [.Name x pos'] e pos) nx rt bk ct σ H := by
  refine ⟨fun pins s I => ?_⟩
  refine wpAny_Assign_Name (thn (h.run pins s I) fun u s1 ⟨v, H1, I1, r, i, σ', sa, hi, q⟩ => ?_) hs
  have g := sa.get
  refine store_ok (i := i) (v := v) I1 (by rw [hN.1]; exact S.nd) (by rw [hN.1]; exact g.1) (by rw [hN.2]; exact (S.at hi g.1).1) r (fun s2 I2 => ?_) (.inl hf)
  rw [g.2] at I2
  exact ⟨σ', H1, I2, q⟩
theorem s_setAt {R : St → Prop} (sa : SetAt N σ x i v σ') (hi : i < M) (k : R σ') : ∃ i σ', SetAt N σ x i v σ' ∧ i < M ∧ R σ' := ⟨i, σ', sa, hi, k⟩
theorem s_gname {Q : St → Hp → Prop} {sc : Scope} (S : NOk N M sc) (sa : SetAt N σ x i v σ') (hi : i < M) (hN : X.N = N ∧ X.env.scope = sc) (hf : X.fn x = true) (q : Q σ' H) : ZG X (.Name x pos) v σ H Q :=
  zg_name i (by rw [hN.1]; exact S.nd) (by rw [hN.1]; exact sa.get.1) (by rw [sa.get.2]; exact q) (by rw [hN.2]; exact (S.at hi sa.get.1).1) (.inl hf)
theorem s_expr (h : ZE X e σ H fun _ H1 => nx σ H1) (hs : swapsWith e none pos.line X.env = pure false) : ZS X (.Expr e pos) nx rt bk ct σ H := zs_expr h hs
theorem s_asg (h : ZE X e σ H fun x H1 => ZG X a x σ H1 nx) (hs : swapsWithSole [a] e pos.line X.env = pure false) (hw : swappedStores [a] e X.env = pure none)
    (h1 : (assignEach [a] X.env).map (·.2) = [assign a X.env]) : ZS X (.Assign [a] e pos) nx rt bk ct σ H := zs_asg h hs hw h1
theorem s_attrS {f : Str} {pos' : Pos} (h : ZE X e σ H fun y H1 => ZE X a σ H1 fun x H2 => ∃ p C dx fs, x = .ref p ∧ H2 p = some (.ins C dx fs) ∧ Cls X.K C ∧ NoAttr X.K C f ∧ fs.length < 1000 ∧ nx σ (upd H2 p (.ins C dx (putF f y fs))))
    (hs : swapsWith e (some (.Attribute a f pos')) pos.line X.env = pure false) : ZS X (.Assign [.Attribute a f pos'] e pos) nx rt bk ct σ H := zs_attr h hs
theorem s_glob {u : Value} (hm : X.mg x = some u) (r : RelV v u) (hg : Gl X x) (hd : (x == ("__debug__" : Str)) = false) (q : Q v H) : ZE X (.Name x pos) σ H Q := ze_glob hm r q hg hd
theorem s_gref {mg : Str → Option Value} {a : Addr} (hm : mg x = some (.ref a)) (hB : X.mg = mg) (hg : Gl X x) (hd : (x == ("__debug__" : Str)) = false) (q : Q (.ref a) H) : ZE X (.Name x pos) σ H Q := ze_glob (v := .ref a) (by rw [hB]; exact hm) rfl q hg hd
theorem s_cons {Q : List V → Hp → Prop} (h : ZE X e σ H fun x H1 => ZA X es σ H1 fun xs H2 => Q (x :: xs) H2) (hs : starEach (e :: es) X.env = (false, eval e X.env) :: starEach es X.env) : ZA X (e :: es) σ H Q := za_cons h hs
theorem s_sub (h : ZE X a σ H fun x H1 => ZE X b σ H1 fun y H2 => IxW X σ x y H2 Q) (hs : PlainIx b) : ZE X (.Subscript a b pos) σ H Q := ze_sub h hs
theorem s_attr {f : Str} (h : ZE X a σ H fun x H1 => AtW X f x H1 Q) (hb : attributeBase a f X.env (eval a X.env) = eval a X.env) : ZE X (.Attribute a f pos) σ H Q := ze_attr h hb
theorem s_val {Q : Bool → Hp → Prop} (h : ZE X e σ H fun x H1 => ∃ k, x = .bl k ∧ Q k H1) (he : ∀ whole, isTrue e X.env whole = (do let v ← whole; standAt e.pos; holding [v] (truthy v))) : ZT X e σ H Q := zt_val h he
theorem s_truth {Q : Bool → Hp → Prop} (h : ZE X e σ H fun x H1 => ∃ k, TruV X.K x H1 k ∧ Q k H1) (he : ∀ whole, isTrue e X.env whole = (do let v ← whole; standAt e.pos; holding [v] (truthy v))) : ZT X e σ H Q := zt_truth h he
theorem s_gsub {Q : St → Hp → Prop} (h : ZE X a σ H fun o H1 => ZE X b σ H1 fun i H2 => SetW X o i v H2 fun H3 => Q σ H3)
    (ha : ∀ v, assign (.Subscript a b pos) X.env v = (do
      let ov ← holding [v] (eval a X.env)
      let iv ← holding [v, ov] (eval b X.env)
      standAt pos
      holding [v, ov, iv] (setItem ov iv v)
      release [v, ov, iv] [])) : ZG X (.Subscript a b pos) v σ H Q := zg_sub h ha
/-- the names of built-in functions, and what they are -/
inductive BFn : Str → String → Prop
  | len : BFn "len" "len" | abs : BFn "abs" "abs" | isi : BFn "isinstance" "isinstance" | max : BFn "max" "max" | min : BFn "min" "min" | dm : BFn "divmod" "divmod"
inductive BTy : Str → String → Prop
  | int : BTy "int" "int" | boo : BTy "bool" "bool" | str : BTy "str" "str" | tup : BTy "tuple" "tuple" | lst : BTy "list" "list" | ve : BTy "ValueError" "ValueError"
theorem BFn.ok {x : Str} {id : String} (h : BFn x id) {mg : Str → Option Value} (B : Blt mg) : mg x = none ∧ bootBuiltins x = some (.builtin id) ∧ x ≠ "__name__" ∧ (x == ("__debug__" : Str)) = false := by
  cases h with
  | len => exact ⟨B.len, boot_len, by decide, by decide⟩
  | abs => exact ⟨B.abs, by decide +kernel, by decide, by decide⟩
  | isi => exact ⟨B.isi, by decide +kernel, by decide, by decide⟩
  | max => exact ⟨B.max, by decide +kernel, by decide, by decide⟩
  | min => exact ⟨B.min, by decide +kernel, by decide, by decide⟩
  | dm => exact ⟨B.dm, by decide +kernel, by decide, by decide⟩
theorem BTy.ok {x : Str} {id : String} (h : BTy x id) {mg : Str → Option Value} (B : Blt mg) : mg x = none ∧ bootBuiltins x = some (.type id) ∧ x ≠ "__name__" ∧ (x == ("__debug__" : Str)) = false := by
  cases h with
  | int => exact ⟨B.int, by decide +kernel, by decide, by decide⟩
  | boo => exact ⟨B.boo, by decide +kernel, by decide, by decide⟩
  | str => exact ⟨B.str, by decide +kernel, by decide, by decide⟩
  | tup => exact ⟨B.tup, by decide +kernel, by decide, by decide⟩
  | lst => exact ⟨B.lst, by decide +kernel, by decide, by decide⟩
  | ve => exact ⟨B.ve, by decide +kernel, by decide, by decide⟩
theorem s_callB {id : String} {mg : Str → Option Value} (f : BFn x id) (B : Blt mg) (hB : X.mg = mg) (h : ZA X (e :: es) σ H fun vs H1 => CallW X (.builtin id) vs H1 Q) (hg : Gl X x)
    (he : starEach (e :: es) X.env = (false, eval e X.env) :: starEach es X.env) (hpl : (backTo pos (starEach es X.env)).any (·.1) = false) : ZE X (.Call (.Name x p) (e :: es) [] pos) σ H Q := by
  subst hB; exact ze_callB (f.ok B).1 (f.ok B).2.1 h hg (f.ok B).2.2.1 (f.ok B).2.2.2 he hpl
theorem s_callT {id : String} {mg : Str → Option Value} (f : BTy x id) (B : Blt mg) (hB : X.mg = mg) (h : ZA X (e :: es) σ H fun vs H1 => CallW X (.type id) vs H1 Q) (hg : Gl X x)
    (he : starEach (e :: es) X.env = (false, eval e X.env) :: starEach es X.env) (hpl : (backTo pos (starEach es X.env)).any (·.1) = false) : ZE X (.Call (.Name x p) (e :: es) [] pos) σ H Q := by
  subst hB; exact ze_callT (f.ok B).1 (f.ok B).2.1 h hg (f.ok B).2.2.1 (f.ok B).2.2.2 he hpl
theorem s_bty {id : String} {mg : Str → Option Value} (f : BTy x id) (B : Blt mg) (hB : X.mg = mg) (hg : Gl X x) (q : Q (.ty id) H) : ZE X (.Name x pos) σ H Q := by
  subst hB; exact ze_bltn (v := .ty id) (u := .type id) (f.ok B).1 (f.ok B).2.1 rfl q hg (f.ok B).2.2.1 (f.ok B).2.2.2
/-- where a body stands -/
structure XIs (X : Cx) (P : Program) (w : World) (K : PySem.W.Frag) (mg : Str → Option Value) (base : Heap) (A : Around) : Prop where
  prog : X.prog = P
  w : X.w = w
  K : X.K = K
  mg : X.mg = mg
  base : X.base = base
  A : X.A = A
theorem s_call {P : Program} {w : World} {K : PySem.W.Frag} {mg : Str → Option Value} {base : Heap} {A : Around} {k j : Nat} {sp : Sp} (c : Cal P w K mg base k x sp) (hr : Room j A) (hk : k ≤ j) (hX : XIs X P w K mg base A) (h : ZA X (e :: es) σ H fun vs H1 => sp vs H1 Q fun cls d H' => XW X cls d σ H') (hg : Gl X x)
    (hdb : (x == ("__debug__" : Str)) = false) (he : starEach (e :: es) X.env = (false, eval e X.env) :: starEach es X.env) (hpl : (backTo pos (starEach es X.env)).any (·.1) = false) : ZE X (.Call (.Name x p) (e :: es) [] pos) σ H Q := by
  obtain ⟨rfl, rfl, rfl, rfl, rfl, rfl⟩ := hX
  exact ze_call c hr hk h hg hdb he hpl
theorem s_call0 {P : Program} {w : World} {K : PySem.W.Frag} {mg : Str → Option Value} {base : Heap} {A : Around} {k j : Nat} {sp : Sp} (c : Cal P w K mg base k x sp) (hr : Room j A) (hk : k ≤ j) (hX : XIs X P w K mg base A) (h : sp [] H Q fun cls d H' => XW X cls d σ H') (hg : Gl X x)
    (hdb : (x == ("__debug__" : Str)) = false) : ZE X (.Call (.Name x p) [] [] pos) σ H Q := by
  obtain ⟨rfl, rfl, rfl, rfl, rfl, rfl⟩ := hX
  exact ze_call0 c hr hk h hg hdb
end
end L2

/-! More rules: heaps by what they keep, texts' methods, blocks, loops, calls within an except suite. -/
namespace L2
open PySem PySem.Spec PyProof.Rows
/-! ### heaps -/
theorem Same.get {H H' : Hp} {a : Addr} {o : HO} (s : Same H H') (h : H a = some o) : H' a = some o := s a o h
theorem Same.new {H H' : Hp} {p : Addr} {o : HO} (s : Same H H') (n : H' p = none) : Same H (upd H' p o) := fun a u e => by rw [upd_ne (ne_of_none (s a u e) n)]; exact s a u e
theorem Same.put {H H' : Hp} {p : Addr} {o : HO} (s : Same H H') (n : H p = none) : Same H (upd H' p o) := fun a u e => by rw [upd_ne (ne_of_none e n)]; exact s a u e
theorem upd_no {H : Hp} {p q : Addr} {o : HO} (h : upd H p o q = none) : H q = none := by
  by_cases e : q = p
  · subst e; rw [upd_same] at h; cases h
  · rwa [upd_ne e] at h
theorem upd_no_ne {H : Hp} {p q : Addr} {o : HO} (h : upd H p o q = none) : q ≠ p := fun e => by subst e; rw [upd_same] at h; cases h
/-- p is free in H -/
structure NoA (H : Hp) (p : Addr) : Prop where
  e : H p = none
theorem intro_no {H : Hp} {R : Addr → Prop} (h : ∀ p, NoA H p → R p) : ∀ p, H p = none → R p := fun p e => h p ⟨e⟩
/-- a is tracked in H -/
def Trk (H : Hp) (a : Addr) : Prop := ∃ o, H a = some o
theorem Trk.of {H : Hp} {a : Addr} {o : HO} (h : H a = some o) : Trk H a := ⟨o, h⟩
theorem Trk.put {H : Hp} {a : Addr} {o : HO} : Trk (upd H a o) a := ⟨o, upd_same⟩
theorem Trk.up {H : Hp} {a p : Addr} {o : HO} (h : Trk H a) : Trk (upd H p o) a := by
  by_cases e : a = p
  · subst e; exact .put
  · obtain ⟨u, hu⟩ := h; exact ⟨u, by rw [upd_ne e]; exact hu⟩
theorem Trk.same {H H' : Hp} {a : Addr} (s : Same H H') (h : Trk H a) : Trk H' a := ⟨_, s _ _ h.choose_spec⟩
theorem Trk.src {H : Hp} {a : Addr} (h : Src H a) : Trk H a := by obtain ⟨q, ns, a, b, c⟩ := h; exact ⟨_, a⟩
theorem Trk.ne {H : Hp} {a b : Addr} (h : Trk H a) (n : NoA H b) : a ≠ b := ne_of_none h.choose_spec n.e
theorem NoA.ne {H : Hp} {a b : Addr} {o : HO} (h : H a = some o) (n : NoA H b) : a ≠ b := ne_of_none h n.e
theorem NoA.free {H H' : Hp} {a : Addr} (s : Same H H') (n : NoA H' a) : H a = none := Same.free s n.e
theorem Src.same {H H' : Hp} {p : Addr} (s : Same H H') (h : Src H p) : Src H' p := by
  obtain ⟨q, ns, a, b, c⟩ := h
  exact ⟨q, ns, s _ _ a, s _ _ b, c⟩
/-! ### isinstance of a built-in class -/
section
variable {X : Cx} {H : Hp} {Q : VK} {x : V}
theorem cw_isb {a b : String} {r : Bool} (hx : TyX X.K H x (.type a)) (hk : kitB a b = some r) (h : Q (.bl r) H) : CallW X (.builtin "isinstance") [x, .ty b] H Q := cw_isi (.ty b) hx (kit_ty hk) h
end
/-! ### methods of texts and lists -/
inductive BM : String → Str → String → Prop
  | startswith : BM "str" "startswith" "str.startswith" | endswith : BM "str" "endswith" "str.endswith" | upper : BM "str" "upper" "str.upper" | lower : BM "str" "lower" "str.lower"
  | strip : BM "str" "strip" "str.strip" | join : BM "str" "join" "str.join" | find : BM "str" "find" "str.find" | count : BM "str" "count" "str.count" | split : BM "str" "split" "str.split"
  | index : BM "list" "index" "list.index" | append : BM "list" "append" "list.append" | isdigit : BM "str" "isdigit" "str.isdigit" | isalpha : BM "str" "isalpha" "str.isalpha" | partition : BM "str" "partition" "str.partition"
  | rstrip : BM "str" "rstrip" "str.rstrip" | lstrip : BM "str" "lstrip" "str.lstrip" | isspace : BM "str" "isspace" "str.isspace" | isalnum : BM "str" "isalnum" "str.isalnum"
theorem BM.ok {T id : String} {m : Str} (h : BM T m id) : PlainAttrs T ∧ Slot T m id ∧ typeOf (.builtin id) = pure (.type "method_descriptor") := by
  cases h with
  | startswith => exact ⟨F.plainAttrs_str, F.slot_str_startswith, F.type_str_startswith⟩
  | endswith => exact ⟨F.plainAttrs_str, F.slot_str_endswith, F.type_str_endswith⟩
  | upper => exact ⟨F.plainAttrs_str, F.slot_str_upper, F.type_str_upper⟩
  | lower => exact ⟨F.plainAttrs_str, F.slot_str_lower, F.type_str_lower⟩
  | strip => exact ⟨F.plainAttrs_str, F.slot_str_strip, F.type_str_strip⟩
  | join => exact ⟨F.plainAttrs_str, F.slot_str_join, F.type_str_join⟩
  | find => exact ⟨F.plainAttrs_str, F.slot_str_find, F.type_str_find⟩
  | count => exact ⟨F.plainAttrs_str, F.slot_str_count, F.type_str_count⟩
  | split => exact ⟨F.plainAttrs_str, F.slot_str_split, F.type_str_split⟩
  | index => exact ⟨F.plainAttrs_list, F.slot_list_index, F.type_list_index⟩
  | append => exact ⟨F.plainAttrs_list, F.slot_list_append, F.type_list_append⟩
  | isdigit => exact ⟨F.plainAttrs_str, F.slot_str_isdigit, F.type_str_isdigit⟩
  | isalpha => exact ⟨F.plainAttrs_str, F.slot_str_isalpha, F.type_str_isalpha⟩
  | partition => exact ⟨F.plainAttrs_str, F.slot_str_partition, F.type_str_partition⟩
  | rstrip => exact ⟨F.plainAttrs_str, F.slot_str_rstrip, F.type_str_rstrip⟩
  | lstrip => exact ⟨F.plainAttrs_str, F.slot_str_lstrip, F.type_str_lstrip⟩
  | isspace => exact ⟨F.plainAttrs_str, F.slot_str_isspace, F.type_str_isspace⟩
  | isalnum => exact ⟨F.plainAttrs_str, F.slot_str_isalnum, F.type_str_isalnum⟩
section
variable {X : Cx} {e a b c : Expr} {es : List Expr} {σ : St} {H : Hp} {Q : VK} {pos apos : Pos} {z z2 : Str} {p : Addr} {xs : List V} {y : V}
theorem s_bm0 {T id : String} {m : Str} (f : BM T m id) (h : ZE X a σ H fun x H1 => tyV X.K T x H1 ∧ MtW X id x [] H1 Q) (hbase : attributeBase a m X.env (eval a X.env) = eval a X.env) (hline : (apos.endLine == pos.line) = true) :
    ZE X (.Call (.Attribute a m apos) [] [] pos) σ H Q := ze_bm0 f.ok.1 f.ok.2.1 f.ok.2.2 h hbase hline
theorem s_bm {T id : String} {m : Str} (f : BM T m id) (h : ZE X a σ H fun x H1 => tyV X.K T x H1 ∧ ZA X (e :: es) σ H1 fun xs H2 => MtW X id x xs H2 Q) (hbase : attributeBase a m X.env (eval a X.env) = eval a X.env) (hline : (apos.endLine == pos.line) = true)
    (hfew : ((backTo pos (starEach (e :: es) X.env)).all (fun x => !x.1) && (backToKw pos (keywordEach [] X.env)).all (fun x => x.1.isSome)
      && decide ((e :: es).length + ([] : List Keyword).length + (if ([] : List Keyword).isEmpty then 0 else 1) < 30)) = true)
    (hs : starEach (e :: es) X.env = (false, eval e X.env) :: starEach es X.env) (hplain : (backTo pos (starEach es X.env)).any (·.1) = false) :
    ZE X (.Call (.Attribute a m apos) (e :: es) [] pos) σ H Q := ze_bm f.ok.1 f.ok.2.1 f.ok.2.2 h hbase hfew hline hs hplain
theorem mw_startswith (h : Q (.bl (Txt.startswith z z2)) H) : MtW X "str.startswith" (.str z) [.str z2] H Q := MtR.w mt_startswith ⟨z, z2, rfl, rfl, h⟩
theorem mw_endswith (h : Q (.bl (Txt.endswith z z2)) H) : MtW X "str.endswith" (.str z) [.str z2] H Q := MtR.w mt_endswith ⟨z, z2, rfl, rfl, h⟩
theorem mw_find (h : Q (.int (Txt.find z z2)) H) : MtW X "str.find" (.str z) [.str z2] H Q := MtR.w mt_find ⟨z, z2, rfl, rfl, h⟩
theorem mw_count (h : Q (.int (Txt.count z z2)) H) : MtW X "str.count" (.str z) [.str z2] H Q := MtR.w mt_count ⟨z, z2, rfl, rfl, h⟩
theorem mw_upper (hz : z.length ≤ 5592405) (h : Q (.str (Txt.upper z)) H) : MtW X "str.upper" (.str z) [] H Q := MtR.w mt_upper ⟨z, rfl, rfl, hz, h⟩
theorem mw_lower (hz : z.length ≤ 5592405) (h : Q (.str (Txt.lower z)) H) : MtW X "str.lower" (.str z) [] H Q := MtR.w mt_lower ⟨z, rfl, rfl, hz, h⟩
theorem mw_strip (hz : z.length ≤ sizeLine) (h : Q (.str (Txt.strip z)) H) : MtW X "str.strip" (.str z) [] H Q := MtR.w mt_strip ⟨z, rfl, rfl, hz, h⟩
theorem mw_isdigit (h : Q (.bl (Txt.isdigit z)) H) : MtW X "str.isdigit" (.str z) [] H Q := MtR.w mt_isdigit ⟨z, rfl, rfl, trivial, h⟩
theorem mw_join {ys : List Str} (hp : SqL X.K H p (ys.map V.str) ∨ SqT X.K H p (ys.map V.str)) (hz : (ys.map (·.length)).sum + ys.length * z.length ≤ 16777216) (h : Q (.str (Txt.join z ys)) H) : MtW X "str.join" (.str z) [.ref p] H Q := MtR.w mt_join ⟨z, p, ys, rfl, rfl, hp, hz, h⟩
theorem mw_index {j : Nat} {v : V} (hs : SqL X.K H p xs) (hy : flatV y = true) (hx : xs.all flatV = true) (hj : xs[j]? = some v) (hv : eqV v y = true) (hno : ∀ (m : Nat) (z' : V), m < j → xs[m]? = some z' → eqV z' y = false) (h : Q (.int (j : Nat)) H) :
    MtW X "list.index" (.ref p) [y] H Q := MtR.w mt_index ⟨p, xs, y, j, v, rfl, rfl, hs, hy, hx, hj, hv, hno, h⟩
/-- x.upper().replace(y, z) -/
theorem ze_upRep {y z : Str} {j k : Nat} {c0 c1 upos upos' : Pos} (h : ZE X a σ H fun v H1 => ∃ x, v = .str x ∧ x.length ≤ 5592405 ∧ (Txt.upper x).length + ((Txt.upper x).length + 1) * z.length ≤ 16777216 ∧ Q (.str (Txt.replace (Txt.upper x) y z)) H1) (hyz : (y == z) = false := by decide)
    (hst : starEach [.Constant (.str y) j c0, .Constant (.str z) k c1] X.env = [(false, eval (.Constant (.str y) j c0) X.env), (false, eval (.Constant (.str z) k c1) X.env)] := by rfl)
    (hb1 : attributeBase a "upper" X.env (eval a X.env) = eval a X.env := by rfl) (hl1 : (upos.endLine == upos'.line) = true := by rfl)
    (hbase : attributeBase (.Call (.Attribute a "upper" upos) [] [] upos') "replace" X.env (eval (.Call (.Attribute a "upper" upos) [] [] upos') X.env) = eval (.Call (.Attribute a "upper" upos) [] [] upos') X.env := by rfl) (hline : (apos.endLine == pos.line) = true := by rfl) :
    ZE X (.Call (.Attribute (.Call (.Attribute a "upper" upos) [] [] upos') "replace" apos) [.Constant (.str y) j c0, .Constant (.str z) k c1] [] pos) σ H Q := by
  refine ⟨fun pins s I => ?_⟩
  refine PySem.Call_method2 hbase hst hline (PySem.Call_method0 hb1 hl1 (thn (h.run pins s I) fun v s1 hh => ?_))
  obtain ⟨v', H1, I1, r1, x, e1, hx, hb, q⟩ := hh
  subst e1
  obtain ⟨tx, e2⟩ := r1
  subst e2
  refine PySem.SB.upper (PyProof.Rows.short24 (by have := PyProof.Rows.len_upper x; omega)) ?_
  refine ⟨"str", _, PySem.F.plainAttrs_str, PySem.F.slot_str_replace, PySem.F.type_str_replace, typeIs_str _ _ _, (fun _ e => nomatch e), Calls.callWith_builtin rfl (Calls.evalArgs_plain (Calls.spliced_cons ?_))⟩
  refine Calls.Constant_str (Calls.spliced_cons (Calls.Constant_str (Calls.spliced_nil ?_)))
  exact PySem.SC.replace (by show s1.toks + 1 ≠ 0; omega) (by show s1.toks + 1 + 1 ≠ 0; omega) (by show s1.toks + 1 ≠ s1.toks + 1 + 1; omega) hyz hb fun t' k => ⟨.str (Txt.replace (Txt.upper x) y z), H1, (I1.tok (s1.toks + 1)).tok k, ⟨t', rfl⟩, q⟩
/-- what a written dict has at a text -/
def WGet (K : PySem.W.Frag) (w : World) (p : Addr) (z : Str) (r : Option V) : Prop := ∃ es n u, K.lookup p = some ⟨.type "dict", none, .dict es n, #[]⟩ ∧ PySem.W.KeysLit w.params es.toList ∧ (p == sysModules) = false ∧ PySem.W.nsIn K p z = some u ∧ RelO r u
/-- d.get(k, x) of a written dict -/
theorem ze_getW (h : ZE X a σ H fun x H1 => ∃ p : Addr, x = .ref p ∧ (∃ es n, X.K.lookup p = some ⟨.type "dict", none, .dict es n, #[]⟩) ∧ ZE X b σ H1 fun y H2 => ZE X c σ H2 fun d H3 => ∃ (z : Str) (r : Option V), y = .str z ∧ WGet X.K X.w p z r ∧ Q (r.getD d) H3)
    (hst : starEach [b, c] X.env = [(false, eval b X.env), (false, eval c X.env)] := by rfl) (hbase : attributeBase a "get" X.env (eval a X.env) = eval a X.env := by rfl) (hline : (apos.endLine == pos.line) = true := by rfl) :
    ZE X (.Call (.Attribute a "get" apos) [b, c] [] pos) σ H Q := by
  refine ⟨fun pins s I => ?_⟩
  refine PySem.Call_method2 hbase hst hline (thn (h.run pins s I) fun v s1 hh => ?_)
  obtain ⟨x, H1, I1, r1, p, ex, ⟨es0, n0, hl0⟩, q1⟩ := hh
  subst ex
  obtain rfl : v = Value.ref p := r1
  refine ⟨"dict", _, PySem.F.plainAttrs_dict, PySem.F.slot_dict_get, PySem.F.type_dict_get, ⟨_, I1.kIn _ _ hl0, rfl⟩, (fun b' e => ?_), Calls.callWith_builtin rfl (Calls.evalArgs_plain (Calls.spliced_cons (thn (q1.run pins s1 I1) fun iv s2 hy => ?_)))⟩
  · cases e
    exact ⟨_, I1.kIn _ _ hl0, rfl⟩
  · obtain ⟨y, H2, I2, ry, q2⟩ := hy
    refine Calls.spliced_cons (thn (q2.run pins s2 I2) fun fv s3 hz => Calls.spliced_nil ?_)
    obtain ⟨d, H3, I3, rd, z, r, ey, ⟨es, n, u, hl, hk, low, hf, ro⟩, q⟩ := hz
    subst ey
    obtain ⟨t, rfl⟩ := ry
    have hm := PySem.W.mapOf_K (prog := X.prog) (w := X.w) I3.kIn hl hk
    refine call_meetsIn PySem.F.slot_dict_get hm.typeIs PySem.F.entry_dict_get (PySem.F.args_dict_get_3 _ _ _) (meets_dict_get_default (strKind X.prog X.w) p (strKind_is X.prog X.w z t) low fv) ⟨_, hm, r.getD d, H3, I3.tok _, ?_, q⟩
    rw [PySem.W.find_K hl hf]
    exact ro.getD rd
end
/-! ### comprehensions -/
section
variable {X : Cx} {elt tg iter : Expr} {scope : Scope} {own : List (Str × Nat)} {pos : Pos} {σ : St} {H : Hp} {Q : VK}
/-- within a block of X, whichever its state -/
def Blk (X : Cx) (scope : Scope) (φ : Cx → Prop) : Prop := ∀ (s : Shared) (H : Hp) (C : Addr) (cl : List (Str × Addr)) (fp : List Addr), φ (X.blk s H scope (compEnvC scope cl C X.env) fp)
def gBlk (X : Cx) (scope : Scope) (tg : Expr) : TG := fun v σ H Q => Blk X scope fun Y => ZG Y tg v σ H Q
def eBlk (X : Cx) (scope : Scope) (e : Expr) : TE := fun σ H Q => Blk X scope fun Y => ZE Y e σ H Q
def tBlk (X : Cx) (scope : Scope) (e : Expr) : TT := fun σ H Q => Blk X scope fun Y => ZT Y e σ H Q
theorem pg_blk (s : Shared) (H : Hp) (C : Addr) (cl : List (Str × Addr)) (fp : List Addr) : PG (X.blk s H scope (compEnvC scope cl C X.env) fp) tg (gBlk X scope tg) := ⟨fun pins s' σ H' v u Q I r h => (h s H C cl fp).run pins s' u I r⟩
theorem pe_blk (s : Shared) (H : Hp) (C : Addr) (cl : List (Str × Addr)) (fp : List Addr) : PE (X.blk s H scope (compEnvC scope cl C X.env) fp) elt (eBlk X scope elt) := ⟨fun pins s' σ H' Q I h => (h s H C cl fp).run pins s' I⟩
theorem pt_blk (s : Shared) (H : Hp) (C : Addr) (cl : List (Str × Addr)) (fp : List Addr) : PT (X.blk s H scope (compEnvC scope cl C X.env) fp) elt (tBlk X scope elt) := ⟨fun pins s' σ H' Q I h => (h s H C cl fp).run pins s' I⟩
/-- [elt for tg in iter], iter a list that the block leaves as it is: Pv by the turn -/
theorem ze_lcL (hc : X.calm = true) (hN : X.N.Nodup) (ok : BlkOk X.N X.env.scope scope own)
    (h : ZE X iter σ H fun x H1 => ∃ a xs, x = .ref a ∧ SqL X.K H1 a xs ∧ ∀ D, H1 D = none → ∃ Pv : Nat → Hp → Prop, Pv 0 (upd H1 D (.lst [])) ∧ (∀ i H, i ≤ xs.length → Pv i H → SqL X.K H a xs) ∧
      (∀ i x H, xs[i]? = some x → Pv i H → gBlk X scope tg x (wipe σ (own.map (·.2))) H fun σ2 H2 => wipe σ2 (own.map (·.2)) = wipe σ (own.map (·.2)) ∧ eBlk X scope elt σ2 H2 fun y H4 => ∃ acc, H4 D = some (.lst acc) ∧ acc.length < sizeLine ∧ Pv (i + 1) (upd H4 D (.lst (acc ++ [y])))) ∧
      ∀ H, Pv xs.length H → Q (.ref D) H)
    (hs : ∀ x, foldedSetIterable iter X.env x = pure x := by intro _; rfl) : ZE X (.ListComp elt [⟨tg, iter, [], 0⟩] scope pos) σ H Q := by
  refine (pe_lc (tt := tYes) hc hN (pi_list (tg := tg) pe_we) ok pg_blk (fun _ _ _ _ _ => pts_nil) pe_blk hs).w ?_
  refine ⟨fun pins s I => thn (h.run pins s I) fun u s1 hh => ?_⟩
  obtain ⟨x, H1, I1, r1, a, xs, ex, hl, k⟩ := hh
  refine ⟨x, H1, I1, r1, a, ex, ⟨xs, hl⟩, fun D hD => ?_⟩
  obtain ⟨Pv, h0, hk, hs', hd⟩ := k D hD
  refine lc_list (g := gBlk X scope tg) (te := eBlk X scope elt) (tt := tYes) Pv h0 hk (fun i x H hx hp => ?_) hd
  exact hs' i x _ hx hp
/-- [elt for tg in iter if c] -/
theorem ze_lcLi {c : Expr} (hc : X.calm = true) (hN : X.N.Nodup) (ok : BlkOk X.N X.env.scope scope own)
    (h : ZE X iter σ H fun x H1 => ∃ a xs, x = .ref a ∧ SqL X.K H1 a xs ∧ ∀ D, H1 D = none → ∃ Pv : Nat → Hp → Prop, Pv 0 (upd H1 D (.lst [])) ∧ (∀ i H, i ≤ xs.length → Pv i H → SqL X.K H a xs) ∧
      (∀ i x H, xs[i]? = some x → Pv i H → gBlk X scope tg x (wipe σ (own.map (·.2))) H fun σ2 H2 => wipe σ2 (own.map (·.2)) = wipe σ (own.map (·.2)) ∧ tBlk X scope c σ2 H2 fun b H3 => if b = true then eBlk X scope elt σ2 H3 fun y H4 => ∃ acc, H4 D = some (.lst acc) ∧ acc.length < sizeLine ∧ Pv (i + 1) (upd H4 D (.lst (acc ++ [y]))) else Pv (i + 1) H3) ∧
      ∀ H, Pv xs.length H → Q (.ref D) H)
    (hs : ∀ x, foldedSetIterable iter X.env x = pure x := by intro _; rfl) : ZE X (.ListComp elt [⟨tg, iter, [c], 0⟩] scope pos) σ H Q := by
  refine (pe_lc (tt := tBlk X scope c) hc hN (pi_list (tg := tg) pe_we) ok pg_blk (fun s H C cl fp => pts_one (pt_blk s H C cl fp)) pe_blk hs).w ?_
  refine ⟨fun pins s I => thn (h.run pins s I) fun u s1 hh => ?_⟩
  obtain ⟨x, H1, I1, r1, a, xs, ex, hl, k⟩ := hh
  refine ⟨x, H1, I1, r1, a, ex, ⟨xs, hl⟩, fun D hD => ?_⟩
  obtain ⟨Pv, h0, hk, hs', hd⟩ := k D hD
  exact lc_list (g := gBlk X scope tg) (te := eBlk X scope elt) (tt := tBlk X scope c) Pv h0 hk (fun i x H hx hp => hs' i x _ hx hp) hd
/-- [elt for tg in range(n)] -/
theorem ze_lcR {e : Expr} {p : Pos} {rpos : Pos} (hc : X.calm = true) (hN : X.N.Nodup) (ok : BlkOk X.N X.env.scope scope own) (hm : X.mg "range" = none)
    (h : ZA X [e] σ H fun vs H1 => ∃ j : Int, vs = [.int j] ∧ -(2 ^ 62) ≤ j ∧ j < 2 ^ 62 ∧ ∀ D, H1 D = none → ∃ Pv : Nat → Hp → Prop, Pv 0 (upd H1 D (.lst [])) ∧
      (∀ (i : Nat) H, i < j.toNat → Pv i H → gBlk X scope tg (.int i) (wipe σ (own.map (·.2))) H fun σ2 H2 => wipe σ2 (own.map (·.2)) = wipe σ (own.map (·.2)) ∧ eBlk X scope elt σ2 H2 fun y H4 => ∃ acc, H4 D = some (.lst acc) ∧ acc.length < sizeLine ∧ Pv (i + 1) (upd H4 D (.lst (acc ++ [y])))) ∧
      ∀ H, Pv j.toNat H → Q (.ref D) H)
    (hg : Gl X "range" := by rfl) (hst : starEach [e] X.env = [(false, eval e X.env)] := by rfl) (hs : ∀ x, foldedSetIterable (.Call (.Name "range" p) [e] [] rpos) X.env x = pure x := by intro _; rfl) : ZE X (.ListComp elt [⟨tg, .Call (.Name "range" p) [e] [] rpos, [], 0⟩] scope pos) σ H Q := by
  refine (pe_lc (tt := tYes) hc hN (pi_range1 (tg := tg) hg hm pa_wa hst) ok pg_blk (fun _ _ _ _ _ => pts_nil) pe_blk hs).w ?_
  refine ⟨fun ps pins s I => thn (h.run ps pins s I) fun u s1 hh => ?_⟩
  obtain ⟨vs, H1, I1, r1, j, ex, l1, l2, k⟩ := hh
  refine ⟨vs, H1, I1, r1, j, ex, l1, l2, fun D hD => ?_⟩
  obtain ⟨Pv, h0, hs', hd⟩ := k D hD
  exact lc_range (lo := 0) (g := gBlk X scope tg) (te := eBlk X scope elt) (tt := tYes) Pv h0 (fun i H hx hp => by
    have := hs' i _ hx hp
    rw [Int.zero_add]
    exact this) hd
end
/-! ### loops -/
section
variable {X : Cx} {tg a e b : Expr} {body : List Stmt} {σ : St} {H : Hp} {nx bk ct : NX} {rt : VK} {pos p rpos : Pos}
/-- for tg in range(n): Iv by the turn; `break` goes to nx -/
theorem zs_forR (hp : PassesOwn (model X.prog X.w) X.A X.env X.xe) (hc : X.calm = true) (hm : X.mg "range" = none)
    (h : ZA X [e] σ H fun vs H1 => ∃ j : Int, vs = [.int j] ∧ -(2 ^ 62) ≤ j ∧ j < 2 ^ 62 ∧ ∃ Iv : Nat → St → Hp → Prop, Iv 0 σ H1 ∧
      (∀ (i : Nat) σ1 H2, (i : Int) < j → Iv i σ1 H2 → ZG X tg (.int i) σ1 H2 fun σ2 H3 => ZSs X body (Iv (i + 1)) rt nx (Iv (i + 1)) σ2 H3) ∧ ∀ σ1 H2, Iv j.toNat σ1 H2 → nx σ1 H2)
    (hg : Gl X "range" := by rfl) (hst : starEach [e] X.env = [(false, eval e X.env)] := by rfl) (hs : ∀ x, foldedSetIterable (.Call (.Name "range" p) [e] [] rpos) X.env x = pure x := by intro _; rfl) :
    ZS X (.For tg (.Call (.Name "range" p) [e] [] rpos) body [] pos) nx rt bk ct σ H := by
  refine zs_for hp hc (zi_range1 hm ?_ hg hst) hs
  refine ⟨fun ps pins s I => thn (h.run ps pins s I) fun u s1 hh => ?_⟩
  obtain ⟨vs, H1, I1, r1, j, ex, l1, l2, Iv, i0, st, fi⟩ := hh
  refine ⟨vs, H1, I1, r1, j, ex, l1, l2, fun i m σ' H' => m = j.toNat - i ∧ i ≤ j.toNat ∧ Iv i σ' H', ⟨_, rfl, Nat.zero_le _, i0⟩, ?_⟩
  rintro i m σ' H' ⟨rfl, hi, iv⟩
  by_cases hlt : i < j.toNat
  · refine .inr ⟨hlt, Iv (i + 1), fun σ2 H2 q => ⟨_, by omega, rfl, hlt, q⟩, fun x H2 y => ?_⟩
    obtain ⟨rfl, rfl⟩ := y
    have := st i σ' _ (by omega) iv
    simpa using this
  · have e : i = j.toNat := by omega
    subst e
    exact .inl ⟨Nat.le_refl _, fi _ _ iv⟩
/-- for tg in range(lo, hi) -/
theorem zs_forR2 (hp : PassesOwn (model X.prog X.w) X.A X.env X.xe) (hc : X.calm = true) (hm : X.mg "range" = none)
    (h : ZA X [e, b] σ H fun vs H1 => ∃ lo j : Int, vs = [.int lo, .int j] ∧ (-(2 ^ 62) ≤ lo ∧ lo < 2 ^ 62 ∧ -(2 ^ 62) ≤ j ∧ j < 2 ^ 62) ∧ ∃ Iv : Nat → St → Hp → Prop, Iv 0 σ H1 ∧
      (∀ (i : Nat) σ1 H2, lo + (i : Int) < j → Iv i σ1 H2 → ZG X tg (.int (lo + i)) σ1 H2 fun σ2 H3 => ZSs X body (Iv (i + 1)) rt nx (Iv (i + 1)) σ2 H3) ∧ ∀ σ1 H2, Iv (j - lo).toNat σ1 H2 → nx σ1 H2)
    (hg : Gl X "range" := by rfl) (hst : starEach [e, b] X.env = [(false, eval e X.env), (false, eval b X.env)] := by rfl) (hst2 : starEach [b] X.env = [(false, eval b X.env)] := by rfl) (hs : ∀ x, foldedSetIterable (.Call (.Name "range" p) [e, b] [] rpos) X.env x = pure x := by intro _; rfl) :
    ZS X (.For tg (.Call (.Name "range" p) [e, b] [] rpos) body [] pos) nx rt bk ct σ H := by
  refine zs_for hp hc (zi_range2 hm ?_ hg hst hst2) hs
  refine ⟨fun ps pins s I => thn (h.run ps pins s I) fun u s1 hh => ?_⟩
  obtain ⟨vs, H1, I1, r1, lo, j, ex, l1, Iv, i0, st, fi⟩ := hh
  refine ⟨vs, H1, I1, r1, lo, j, ex, l1, fun i m σ' H' => m = (j - lo).toNat - i ∧ i ≤ (j - lo).toNat ∧ Iv i σ' H', ⟨_, rfl, Nat.zero_le _, i0⟩, ?_⟩
  rintro i m σ' H' ⟨rfl, hi, iv⟩
  by_cases hlt : i < (j - lo).toNat
  · refine .inr ⟨hlt, Iv (i + 1), fun σ2 H2 q => ⟨_, by omega, rfl, hlt, q⟩, fun x H2 y => ?_⟩
    obtain ⟨rfl, rfl⟩ := y
    exact st i σ' _ (by omega) iv
  · have e : i = (j - lo).toNat := by omega
    subst e
    exact .inl ⟨Nat.le_refl _, fi _ _ iv⟩
/-- for tg in a list that the turns leave as it is -/
theorem zs_forL (hp : PassesOwn (model X.prog X.w) X.A X.env X.xe) (hc : X.calm = true)
    (h : ZE X a σ H fun x H1 => ∃ p xs, x = .ref p ∧ SqL X.K H1 p xs ∧ ∃ Iv : Nat → St → Hp → Prop, Iv 0 σ H1 ∧ (∀ i σ1 H2, i ≤ xs.length → Iv i σ1 H2 → SqL X.K H2 p xs) ∧
      (∀ i y σ1 H2, xs[i]? = some y → Iv i σ1 H2 → ZG X tg y σ1 H2 fun σ2 H3 => ZSs X body (Iv (i + 1)) rt nx (Iv (i + 1)) σ2 H3) ∧ ∀ σ1 H2, Iv xs.length σ1 H2 → nx σ1 H2)
    (hs : ∀ x, foldedSetIterable a X.env x = pure x := by intro _; rfl) : ZS X (.For tg a body [] pos) nx rt bk ct σ H := by
  refine zs_for hp hc (zi_list ?_) hs
  refine ⟨fun pins s I => thn (h.run pins s I) fun u s1 hh => ?_⟩
  obtain ⟨x, H1, I1, r1, q, xs, ex, hl, Iv, i0, kp, st, fi⟩ := hh
  refine ⟨x, H1, I1, r1, q, ex, ⟨xs, hl⟩, fun i m σ' H' => m = xs.length - i ∧ i ≤ xs.length ∧ Iv i σ' H', ⟨_, rfl, Nat.zero_le _, i0⟩, ?_⟩
  rintro i m σ' H' ⟨rfl, hi, iv⟩
  have hl' := kp i σ' H' hi iv
  by_cases hlt : i < xs.length
  · refine .inr ⟨⟨xs, xs[i], hl', by simp [hlt]⟩, Iv (i + 1), fun σ2 H2 q => ⟨_, by omega, rfl, hlt, q⟩, fun y H2 yy => ?_⟩
    obtain ⟨e, yy⟩ := yy
    subst e
    exact st i y σ' _ (yy xs hl') iv
  · have e : i = xs.length := by omega
    subst e
    exact .inl ⟨⟨xs, hl', Nat.le_refl _⟩, fi _ _ iv⟩
/-- for tg in a tuple -/
theorem zs_forT (hp : PassesOwn (model X.prog X.w) X.A X.env X.xe) (hc : X.calm = true)
    (h : ZE X a σ H fun x H1 => ∃ p xs, x = .ref p ∧ SqT X.K H1 p xs ∧ ∃ Iv : Nat → St → Hp → Prop, Iv 0 σ H1 ∧ (∀ i σ1 H2, i ≤ xs.length → Iv i σ1 H2 → SqT X.K H2 p xs) ∧
      (∀ i y σ1 H2, xs[i]? = some y → Iv i σ1 H2 → ZG X tg y σ1 H2 fun σ2 H3 => ZSs X body (Iv (i + 1)) rt nx (Iv (i + 1)) σ2 H3) ∧ ∀ σ1 H2, Iv xs.length σ1 H2 → nx σ1 H2)
    (hs : ∀ x, foldedSetIterable a X.env x = pure x := by intro _; rfl) : ZS X (.For tg a body [] pos) nx rt bk ct σ H := by
  refine zs_for hp hc (zi_tup ?_) hs
  refine ⟨fun pins s I => thn (h.run pins s I) fun u s1 hh => ?_⟩
  obtain ⟨x, H1, I1, r1, q, xs, ex, hl, Iv, i0, kp, st, fi⟩ := hh
  refine ⟨x, H1, I1, r1, q, ex, ⟨xs, hl⟩, fun i m σ' H' => m = xs.length - i ∧ i ≤ xs.length ∧ Iv i σ' H', ⟨_, rfl, Nat.zero_le _, i0⟩, ?_⟩
  rintro i m σ' H' ⟨rfl, hi, iv⟩
  have hl' := kp i σ' H' hi iv
  by_cases hlt : i < xs.length
  · refine .inr ⟨⟨xs, xs[i], hl', by simp [hlt]⟩, Iv (i + 1), fun σ2 H2 q => ⟨_, by omega, rfl, hlt, q⟩, fun y H2 yy => ?_⟩
    obtain ⟨e, yy⟩ := yy
    subst e
    exact st i y σ' _ (yy xs hl') iv
  · have e : i = xs.length := by omega
    subst e
    exact .inl ⟨⟨xs, hl', Nat.le_refl _⟩, fi _ _ iv⟩
/-- while c: Iv with a measure -/
theorem zs_whl {c : Expr} (hp : PassesOwn (model X.prog X.w) X.A X.env X.xe) (Iv : Nat → St → Hp → Prop) (m0 : Nat) (h0 : Iv m0 σ H)
    (st : ∀ m σ1 H1, Iv m σ1 H1 → ZT X c σ1 H1 fun k H2 => if k = true then ZSs X body (fun σ2 H3 => ∃ m', m' < m ∧ Iv m' σ2 H3) rt nx (fun σ2 H3 => ∃ m', m' < m ∧ Iv m' σ2 H3) σ1 H2 else nx σ1 H2) : ZS X (.While c body [] pos) nx rt bk ct σ H :=
  zs_while hp ⟨Iv, ⟨m0, h0⟩, fun m σ1 H1 iv => ⟨fun pins s I => wpAny_mono ((st m σ1 H1 iv).run pins s I) (fun k s1 hh => by
    obtain ⟨H2, I2, q⟩ := hh
    refine ⟨H2, I2, ?_⟩
    cases k
    · exact q
    · exact ⟨_, fun _ _ z => z, q⟩) fun _ _ z => z⟩⟩
end
/-! ### calls within an except suite -/
structure CalH (P : Program) (w : World) (K : PySem.W.Frag) (mg : Str → Option Value) (base : Heap) (k : Nat) (x : Str) (sp : Sp) : Prop where
  ex : ∃ (f : Addr) (fd : FuncData) (ps : List Str), L2H.FnH P w K mg base (L2N.CX P w) k f fd ps sp ∧ mg x = some (.ref f) ∧ PySem.W.keepIn K (.ref f) = true ∧ Binds K fd ps []
section
variable {X : Cx} {e a : Expr} {es : List Expr} {σ : St} {H : Hp} {Q : VK} {p pos apos : Pos}
theorem ze_callH {x : Str} {k j : Nat} {sp : Sp} (c : CalH X.prog X.w X.K X.mg X.base k x sp) (hr : L2H.RoomH j X.A) (hc : L2H.HotC X) (hk : k ≤ j) (h : ZA X (e :: es) σ H fun vs H1 => sp vs H1 Q fun cls d H' => XW X cls d σ H') (hg : Gl X x)
    (hdb : (x == ("__debug__" : Str)) = false) (he : starEach (e :: es) X.env = (false, eval e X.env) :: starEach es X.env) (hpl : (backTo pos (starEach es X.env)).any (·.1) = false) : ZE X (.Call (.Name x p) (e :: es) [] pos) σ H Q := by
  obtain ⟨f, fd, ps, F, gm, kp, hb⟩ := c.ex
  refine (L2H.pe_callH (E := fun σ cls d H' => XW X cls d σ H') F (hr.mono hk) hc hg gm kp hb (fun σ pins H s e' s' I hq => takes_xw e' s' (L2N.XE.of_call I (fun cls d H' w => w) hq)) pa_wa hdb he hpl).w h
end
theorem FunH.ok {P : Program} {w : World} {K : PySem.W.Frag} {mg : Str → Option Value} {base : Heap} {x qual : Str} {st : Stmt} {f : Addr} {fd : FuncData} {N ps : List Str} {k : Nat} {sp : Sp} (F : Fun K x qual st f fd) (S : FnScope N ps (defScope st)) (len : ∀ vs H Q E, sp vs H Q E → vs.length = ps.length)
    (hbody : ∀ (cdv : Value) (A : Around) (outer : List Env) (s : Shared) (H : Hp) (vs : List V) (Q : VK) (E : XK) (p : Addr × Obj), L2H.Hot1 A p → L2H.RoomH k (A.deeper (envOfC qual (defScope st) s.heap.objs.size f cdv)) → sp vs H Q E →
      ZSs (L2H.cxH (L2N.CX P w) P w K mg base N qual (defScope st) f cdv A outer s H E p) (defBody st) (fun _ H' => Q .non H') Q (fun _ _ => False) (fun _ _ => False) (start N vs) H) : L2H.FnH P w K mg base (L2N.CX P w) (k + 1) f fd ps sp := by
  obtain ⟨oc, od, kV, doc, pm, an, cdv, ct, osl, rfl, lk, hcd⟩ := F.ex
  exact L2H.fn_ofH lk hcd S len fun A outer s H vs Q E p hot hr hsp => ⟨_, pss_wss, hbody cdv A outer s H vs Q E p hot hr hsp⟩
/-! ### raise, in a step -/
structure XCls (P : Program) (K : PySem.W.Frag) (mg : Str → Option Value) (x : Str) (C : Addr) (nms : List Str) : Prop where
  T : PySem.LX.ExcT K C
  gC : mg x = some (.ref C)
  ini : ∃ fI, PySem.W.findIn K (.ref C) "__init__" = some (some (.ref fI)) ∧ PySem.W.typeIn K (.ref fI) = some (.type "function") ∧ PySem.LX.InitRuns P K mg C fI nms
theorem s_raise {X : Cx} {e : Expr} {es : List Expr} {σ : St} {H : Hp} {nx bk ct : NX} {rt : VK} {p pos pos2 : Pos} {P : Program} {w : World} {K : PySem.W.Frag} {mg : Str → Option Value} {base : Heap} {A : Around} {x : Str} {C : Addr} {nms : List Str} {j : Nat} (c : XCls P K mg x C nms) (hr : Room j A) (hX : XIs X P w K mg base A) (hc : X.calm = true)
    (h : ZA X (e :: es) σ H fun vs H1 => vs.length = nms.length ∧ nms.length ≤ 10 ∧ ∀ d, H1 d = none → XW X (.ref C) (some d) σ (upd H1 d (.xd (nms.zip vs).reverse))) (hg : Gl X x)
    (hdb : (x == ("__debug__" : Str)) = false) (he : starEach (e :: es) X.env = (false, eval e X.env) :: starEach es X.env) (hpl : (backTo pos (starEach es X.env)).any (·.1) = false) : ZS X (.Raise (some (.Call (.Name x p) (e :: es) [] pos)) none pos2) nx rt bk ct σ H := by
  obtain ⟨rfl, rfl, rfl, rfl, rfl, rfl⟩ := hX
  obtain ⟨fI, a, b, ir⟩ := c.ini
  exact zs_raise (c := e) hc c.T a b ir c.gC hr h hg hdb he hpl
end L2
namespace L2
open PySem PySem.Spec PyProof.Rows
/-! ### equal data, by depth -/
inductive DEq (K : PySem.W.Frag) (H : Hp) : Nat → V → V → Prop
  | non {n : Nat} : DEq K H n .non .non
  | bl {n : Nat} (b : Bool) : DEq K H n (.bl b) (.bl b)
  | int {n : Nat} (i : Int) : DEq K H n (.int i) (.int i)
  | str {n : Nat} (z : Str) : DEq K H n (.str z) (.str z)
  | lst {n : Nat} {p q : Addr} {xs ys : List V} (hx : SqL K H p xs) (hy : SqL K H q ys) (hz : xs.length ≤ sizeLine) (hl : xs.length = ys.length) (h : ∀ (i : Nat) (x y : V), xs[i]? = some x → ys[i]? = some y → DEq K H n x y) : DEq K H (n + 1) (.ref p) (.ref q)
  | tup {n : Nat} {p q : Addr} {xs ys : List V} (hx : SqT K H p xs) (hy : SqT K H q ys) (hz : xs.length ≤ sizeLine) (hl : xs.length = ys.length) (h : ∀ (i : Nat) (x y : V), xs[i]? = some x → ys[i]? = some y → DEq K H n x y) : DEq K H (n + 1) (.ref p) (.ref q)
theorem DEq.self {K : PySem.W.Frag} {H : Hp} {n : Nat} {x : V} (h : flatV x = true) (h2 : ∀ b, x ≠ .byt b) (h3 : ∀ b, x ≠ .flt b) (h4 : ∀ a, x ≠ .ref a) : DEq K H n x x := by
  cases x with
  | non => exact .non
  | bl b => exact .bl b
  | int i => exact .int i
  | str z => exact .str z
  | byt b => exact absurd rfl (h2 b)
  | flt b => exact absurd rfl (h3 b)
  | ref a => exact absurd rfl (h4 a)
  | ty t => exact absurd h (by simp [flatV])
/-- the plain data: no object -/
inductive Sc : V → Prop
  | non : Sc .non | bl (b : Bool) : Sc (.bl b) | int (i : Int) : Sc (.int i) | str (z : Str) : Sc (.str z)
theorem Sc.eq {K : PySem.W.Frag} {H : Hp} {n : Nat} {x : V} (h : Sc x) : DEq K H n x x := by
  cases h with
  | non => exact .non
  | bl b => exact .bl b
  | int i => exact .int i
  | str z => exact .str z
theorem DEq.lstS {K : PySem.W.Frag} {H : Hp} {n : Nat} {p q : Addr} {xs : List V} (hx : SqL K H p xs) (hy : SqL K H q xs) (hz : xs.length ≤ sizeLine) (h : ∀ x ∈ xs, Sc x) : DEq K H (n + 1) (.ref p) (.ref q) :=
  .lst hx hy hz rfl fun i x y a b => by rw [a] at b; cases b; exact (h x (List.mem_of_getElem? a)).eq
theorem DEq.tupS {K : PySem.W.Frag} {H : Hp} {n : Nat} {p q : Addr} {xs : List V} (hx : SqT K H p xs) (hy : SqT K H q xs) (hz : xs.length ≤ sizeLine) (h : ∀ x ∈ xs, Sc x) : DEq K H (n + 1) (.ref p) (.ref q) :=
  .tup hx hy hz rfl fun i x y a b => by rw [a] at b; cases b; exact (h x (List.mem_of_getElem? a)).eq
def spEq (K : PySem.W.Frag) (n : Nat) : Sp := fun vs H Q _ => ∃ x y, vs = [x, y] ∧ DEq K H n x y ∧ Q (.bl true) H
def spEqS : Sp := fun vs H Q _ => ∃ x, vs = [x, x] ∧ Sc x ∧ Q (.bl true) H
theorem equal_do {K : PySem.W.Frag} {n : Nat} {x y : V} {H : Hp} {Q : VK} {E : XK} (h : DEq K H n x y) (q : Q (.bl true) H) : spEq K n [x, y] H Q E := ⟨x, y, rfl, h, q⟩
theorem equalS_do {x : V} {H : Hp} {Q : VK} {E : XK} (h : Sc x) (q : Q (.bl true) H) : spEqS [x, x] H Q E := ⟨x, rfl, h, q⟩
theorem TyX.ofL {K : PySem.W.Frag} {H : Hp} {p : Addr} {xs : List V} (h : SqL K H p xs) : TyX K H (.ref p) (.type "list") := by
  rcases h with (h | ⟨o, h⟩) | ⟨o, _, _, h, c, _⟩
  · exact .base (.lst h)
  · exact .base (.frz h)
  · exact .kList h c
theorem TyX.ofT {K : PySem.W.Frag} {H : Hp} {p : Addr} {xs : List V} (h : SqT K H p xs) : TyX K H (.ref p) (.type "tuple") := by
  rcases h with (h | ⟨o, h⟩) | ⟨o, _, _, h, c, _⟩
  · exact .base (.tup h)
  · exact .fTuple h
  · exact .kTuple h c
theorem inV_str {z : Str} : ∀ {l : List Str}, inV (.str z) (l.map V.str) = decide (z ∈ l)
  | [] => rfl
  | a :: l => by
    have ih := inV_str (z := z) (l := l)
    unfold inV at ih ⊢
    rw [List.map_cons, List.any_cons, ih]
    by_cases e : a = z
    · subst e; simp [eqV]
    · have e2 : ¬ z = a := fun x => e x.symm
      simp [eqV, e, e2]
end L2
namespace L2
open PySem PySem.Spec PyProof.Rows
theorem idxOf_before {l : List Str} {z : Str} : ∀ {m : Nat} {y : Str}, m < l.idxOf z → l[m]? = some y → y ≠ z := by
  induction l with
  | nil => intro m y h h2; simp at h2
  | cons a l ih =>
    intro m y h h2
    rw [List.idxOf_cons] at h
    by_cases e : a = z
    · subst e; simp at h
    · have e2 : (a == z) = false := by simpa using e
      rw [e2] at h
      cases m with
      | zero => simp at h2; subst h2; exact e
      | succ m =>
        simp at h2
        exact ih (by simp at h; omega) h2
theorem mw_indexS {X : Cx} {H : Hp} {Q : VK} {p : Addr} {l : List Str} {z : Str} (hs : SqL X.K H p (l.map V.str)) (hz : z ∈ l) (h : Q (.int (l.idxOf z : Nat)) H) : MtW X "list.index" (.ref p) [.str z] H Q := by
  have hlt : l.idxOf z < l.length := List.idxOf_lt_length_of_mem hz
  have e : l[l.idxOf z]? = some z := by rw [List.getElem?_eq_getElem hlt, List.getElem_idxOf]
  refine mw_index (j := l.idxOf z) (v := .str z) hs rfl (by simp [List.all_map, flatV]) (by rw [List.getElem?_map, e]; rfl) (by simp [eqV]) (fun m z' hm hz' => ?_) h
  obtain ⟨y, hy, rfl⟩ := map_get hz'
  have := idxOf_before hm hy
  simp [eqV, this]
end L2
namespace L2
open PySem PySem.Spec PyProof.Rows
theorem draw_do {p : Addr} {many : Int} {H : Hp} {Q : VK} {E : XK} (h1 : 0 < many) (h2 : many < 1073741824) (h3 : Src H p) (h : ∀ v, 0 ≤ v → v < many → Q (.int v) H) : spDraw [.ref p, .int many] H Q E := ⟨p, many, rfl, h1, h2, h3, h⟩
theorem cutS_len (z : Str) (lo hi : Option Int) : (cutS z lo hi).length ≤ z.length := by
  have e : z.length = z.cps.toList.length := rfl
  rw [e]
  show (List.toArray _).size ≤ _
  rw [List.size_toArray, List.length_take, List.length_drop]
  omega
theorem str_app_len (a b : Str) : (a ++ b).length = a.length + b.length := by
  show (a.cps ++ b.cps).size = _
  rw [Array.size_append]; rfl
end L2
namespace L2
open PySem PySem.Spec PyProof.Rows
/-! ### within an except suite -/
section
variable {X : Cx} {a : Addr} {oe : Obj} {cls : Value} {d : Option Addr} {pn : List (Addr × Obj)} {H : Hp} {Q : VK} {σ : St}
theorem hot_suite (hz : L2N.Zn cls d oe) (hf : ∃ vs, oe.data = .fields vs) : L2H.HotC (X.suite a ((a, oe) :: pn)) := by
  obtain ⟨vs, e⟩ := hf
  exact ⟨(a, oe), ⟨rfl, vs, e, hz.2.2 vs e⟩, List.mem_cons_self⟩
theorem cw_isx {D : Addr} {c : V} {cv : Value} {b : Bool} (hz : L2N.Zn cls d oe) (hf : ∃ vs, oe.data = .fields vs) (hc : cls = .ref D) (T : PySem.LX.ExcT X.K D) (hd : DOk H d) (hv : ClsV c cv) (hk : PySem.W.kitOne X.K (.ref D) cv = some b) (q : Q (.bl b) H) :
    CallW (X.suite a ((a, oe) :: pn)) (.builtin "isinstance") [.ref a, c] H Q := (call_isX hz.zc hf).w ⟨D, c, cv, b, hc, T, hd, rfl, fun _ r => hv.eq r, hk, q⟩
theorem aw_xd {C dd : Addr} {fs : List (Str × V)} {v : V} {n : Str} (hz : L2N.Zn cls d oe) (hf : ∃ vs, oe.data = .fields vs) (hc : cls = .ref C) (hd : d = some dd) (T : PySem.LX.ExcT X.K C) (hno : PySem.W.findIn X.K (.ref C) n = some none) (ea : H dd = some (.xd fs)) (l : fs.lookup n = some v) (q : Q v H) :
    AtW (X.suite a ((a, oe) :: pn)) n (.ref a) H Q := by
  refine ⟨fun pins s1 σ u I1 rx => ?_⟩
  obtain rfl : u = Value.ref a := rx
  subst hc
  subst hd
  obtain ⟨ha, _⟩ := I1.pin (a, oe) (List.mem_append_left _ List.mem_cons_self)
  obtain ⟨vs, hdt⟩ := hf
  have hx : ObjOk X.prog X.w H s1.heap dd (.xd fs) := I1.hok dd _ ea
  obtain ⟨mA, hns, hr⟩ := hx
  obtain ⟨od, ho, hl⟩ := lookIn_ns hns
  obtain ⟨u, hu, ru⟩ := RelO.some_of (v := v) (o := mA n) (by rw [← l]; exact hr n)
  have J : PySem.W.InstAt s1.heap a oe C (some od) := ⟨ha, hz.1, by unfold PySem.W.notCls; rw [hdt] <;> rfl, by rw [hz.2.1]; exact ho⟩
  exact HandSPX.exc_get I1.kIn J T.ga T.gg T.ox.exC (PySem.W.findObj_own T.hd hno rfl (by rw [hl, hu])) (handed_of ru) ⟨v, H, I1.tok _, ru, q⟩
theorem s_callH {P : Program} {w : World} {K : PySem.W.Frag} {mg : Str → Option Value} {base : Heap} {A : Around} {x : Str} {k j : Nat} {sp : Sp} {e : Expr} {es : List Expr} {p pos : Pos} (c : CalH P w K mg base k x sp) (hz : L2N.Zn cls d oe) (hf : ∃ vs, oe.data = .fields vs) (hr : Room j A) (hk : k ≤ j) (hX : XIs X P w K mg base A)
    (h : ZA (X.suite a ((a, oe) :: pn)) (e :: es) σ H fun vs H1 => sp vs H1 Q fun cls d H' => XW (X.suite a ((a, oe) :: pn)) cls d σ H') (hg : Gl X x)
    (hdb : (x == ("__debug__" : Str)) = false) (he : starEach (e :: es) X.env = (false, eval e X.env) :: starEach es X.env) (hpl : (backTo pos (starEach es X.env)).any (·.1) = false) : ZE (X.suite a ((a, oe) :: pn)) (.Call (.Name x p) (e :: es) [] pos) σ H Q := by
  obtain ⟨rfl, rfl, rfl, rfl, rfl, rfl⟩ := hX
  exact ze_callH (X := X.suite a ((a, oe) :: pn)) c (j := j) (show L2H.RoomH j (X.A.mark (some (.ref a))) from ⟨hr.dp, hr.un⟩) (hot_suite hz hf) hk h hg hdb he hpl
theorem s_try {P : Program} {w : World} {K : PySem.W.Frag} {mg : Str → Option Value} {base : Heap} {A : Around} {x n : Str} {CL : Addr} {i : Nat} {body suite : List Stmt} {b₀ : Stmt} {np pos pos' : Pos} {N : List Str} {M : Nat} {sc : Scope} {nx bk ct : NX} {rt : VK} (gC : mg x = some (.ref CL)) (S : NOk N M sc) (hX : XIs X P w K mg base A) (hN : X.N = N ∧ X.env.scope = sc) (hi : N[i]? = some n)
    (hs : X.stack = X.env :: X.outer) (hf : X.env.frame = some X.env.locals) (hln : X.env.kindOf n = some .local) (hg : Gl X x) (hdb : (x == ("__debug__" : Str)) = false)
    (h : ∀ (pn : List (Addr × Obj)) (xe : Value → Shared → Prop), (∀ cls d σ H, (∃ b, PySem.W.exmOne K cls (.ref CL) = some b ∧ (b = true → ∀ a, H a = none → ∀ (oe : Obj) (pn : List (Addr × Obj)), L2N.Zn cls d oe → (∃ vs, oe.data = .fields vs) → ZSs (X.suite a ((a, oe) :: pn)) (b₀ :: suite) (fun σ' H' => nx (σ'.set i none) H') rt (fun σ' H' => bk (σ'.set i none) H') (fun σ' H' => ct (σ'.set i none) H') (σ.set i (some (.ref a))) H) ∧ (b = false → XW X cls d σ H)) → XW (X.tr pn xe) cls d σ H) →
      PassesOwn (model X.prog X.w) X.A X.env xe → ZSs (X.tr pn xe) body nx rt bk ct σ H) :
    ZS X (.Try body [.ExceptHandler (some (.Name x np)) (some n) (b₀ :: suite) pos'] [] [] pos) nx rt bk ct σ H := by
  obtain ⟨rfl, rfl, rfl, rfl, rfl, rfl⟩ := hX
  obtain ⟨rfl, rfl⟩ := hN
  refine zs_try_as hs hf S.nd hi hln ⟨hg, hdb, .inl gC⟩ fun pn xe tk hp => h pn xe (fun cls d σ H hh => xw_of tk ?_) hp
  obtain ⟨b, h1, h2, h3⟩ := hh
  exact ⟨b, h1, fun hb a na oe pn hz hf => h2 hb a na oe pn hz hf, h3⟩
end
end L2
namespace L2
open PySem PySem.Spec PyProof.Rows
theorem src_do {K : PySem.W.Frag} {a : Addr} {ns : List Int} {H : Hp} {Q : VK} {E : XK} (h1 : SqL K H a (ns.map V.int)) (h2 : ns.length ≤ 1000) (h : ∀ p H', NoA H p → Same H H' → Src H' p → Q (.ref p) H') : spSrc K [.ref a] H Q E := ⟨a, ns, rfl, h1, h2, fun p H' n => h p H' ⟨n⟩⟩
theorem mem_cutV {xs : List V} {lo hi : Option Int} {y : V} (h : y ∈ cutV xs lo hi) : y ∈ xs := by
  unfold cutV at h
  exact List.mem_of_mem_drop (List.mem_of_mem_take h)
/-- the law's promise -/
def spLaw (K : PySem.W.Frag) : Sp := fun vs H Q _ => ∃ (a : Addr) (ns : List Int), vs = [.ref a] ∧ SqL K H a (ns.map V.int) ∧ ns.length ≤ 63 ∧ ∀ H', Q (.bl true) H'
end L2
namespace L2
open PySem PySem.Spec PyProof.Rows
theorem Sc.nil : ∀ x ∈ ([] : List V), Sc x := fun x h => by cases h
theorem Sc.cons {a : V} {l : List V} (h : Sc a) (t : ∀ x ∈ l, Sc x) : ∀ x ∈ a :: l, Sc x := fun x hx => by
  rcases List.mem_cons.mp hx with rfl | hx
  · exact h
  · exact t x hx
theorem Sc.app {a l : List V} (h : ∀ x ∈ a, Sc x) (t : ∀ x ∈ l, Sc x) : ∀ x ∈ a ++ l, Sc x := fun x hx => (List.mem_append.mp hx).elim (h x) (t x)
theorem Sc.mapS {l : List Str} : ∀ x ∈ l.map V.str, Sc x := fun x hx => by
  obtain ⟨m, _, rfl⟩ := List.mem_map.mp hx
  exact .str m
theorem Sc.mapI {l : List Int} : ∀ x ∈ l.map V.int, Sc x := fun x hx => by
  obtain ⟨m, _, rfl⟩ := List.mem_map.mp hx
  exact .int m
end L2
namespace L2
open PySem PySem.Spec PyProof.Rows
theorem Cal.of {P : Program} {w : World} {K : PySem.W.Frag} {mg : Str → Option Value} {base : Heap} {k : Nat} {x : Str} {f : Addr} {fd : FuncData} {ps : List Str} {sp : Sp} (F : FnOk P w K mg base (L2N.CX P w) k f fd ps sp) (g : mg x = some (.ref f)) (kp : PySem.W.keepIn K (.ref f) = true) (b : Binds K fd ps []) : Cal P w K mg base k x sp :=
  ⟨f, fd, ps, [], [], sp, F, g, kp, b, .nil, fun vs H Q E h => by rw [List.append_nil]; exact h⟩
theorem CalH.of {P : Program} {w : World} {K : PySem.W.Frag} {mg : Str → Option Value} {base : Heap} {k : Nat} {x : Str} {f : Addr} {fd : FuncData} {ps : List Str} {sp : Sp} (F : L2H.FnH P w K mg base (L2N.CX P w) k f fd ps sp) (g : mg x = some (.ref f)) (kp : PySem.W.keepIn K (.ref f) = true) (b : Binds K fd ps []) : CalH P w K mg base k x sp :=
  ⟨f, fd, ps, F, g, kp, b⟩
end L2

/-! Still more rules: where a token is given out, blocks, ranges. -/
namespace L2
open PySem PySem.Spec PyProof.Rows
section
variable {X : Cx} {e a b c : Expr} {es : List Expr} {σ σ' : St} {H : Hp} {Q : VK} {pos apos p : Pos}
/-! ### one token is given out -/
structure ZE1 (X : Cx) (e : Expr) (σ : St) (H : Hp) (Q : VK) : Prop where
  run : ∀ pins s, 1 ≤ s.toks → Inv X pins σ H s → wpAny (model X.prog X.w) X.A (eval e X.env) (EP X pins σ Q) X.xe s
structure ZEs (X : Cx) (e : Expr) (σ : St) (H : Hp) (Q : VK) : Prop where
  run : ∀ pins s, Inv X pins σ H s → wpAny (model X.prog X.w) X.A (eval e X.env) (fun v s' => 1 ≤ s'.toks ∧ EP X pins σ Q v s') X.xe s
structure ZA1 (X : Cx) (es : List Expr) (σ : St) (H : Hp) (Q : List V → Hp → Prop) : Prop where
  run : ∀ pos pins s, 1 ≤ s.toks → Inv X pins σ H s → wpAny (model X.prog X.w) X.A (spliced (backTo pos (starEach es X.env))) (AP X pins σ Q) X.xe s
theorem ze1_of (h : ZE X e σ H Q) : ZE1 X e σ H Q := ⟨fun pins s _ I => h.run pins s I⟩
theorem za1_nil {Q : List V → Hp → Prop} (q : Q [] H) : ZA1 X [] σ H Q := ⟨fun pos pins s _ I => (za_nil q).run pos pins s I⟩
theorem za1_cons {Q : List V → Hp → Prop} (h : ZE1 X e σ H fun x H1 => ZA1 X es σ H1 fun xs H2 => Q (x :: xs) H2) (hs : starEach (e :: es) X.env = (false, eval e X.env) :: starEach es X.env) : ZA1 X (e :: es) σ H Q := by
  refine ⟨fun pos pins s h0 I => ?_⟩
  rw [hs]
  show wpAny _ _ (spliced ((false, eval e X.env) :: backTo pos (starEach es X.env))) _ _ s
  refine Calls.spliced_cons (wpAny_mono (PySem.wpAny_toks (h.run pins s h0 I)) (fun v s1 q => ?_) fun _ _ z => z.2)
  obtain ⟨hk, x, H1, I1, r1, q1⟩ := q
  exact thn (q1.run pos pins s1 (Nat.le_trans h0 hk) I1) fun us s2 ⟨xs, H2, I2, r2, q2⟩ => ⟨x :: xs, H2, I2, .cons r1 r2, q2⟩
theorem za_conss {Q : List V → Hp → Prop} (h : ZEs X e σ H fun x H1 => ZA1 X es σ H1 fun xs H2 => Q (x :: xs) H2) (hs : starEach (e :: es) X.env = (false, eval e X.env) :: starEach es X.env) : ZA X (e :: es) σ H Q := by
  refine ⟨fun pos pins s I => ?_⟩
  rw [hs]
  show wpAny _ _ (spliced ((false, eval e X.env) :: backTo pos (starEach es X.env))) _ _ s
  refine Calls.spliced_cons (wpAny_mono (h.run pins s I) (fun v s1 q => ?_) fun _ _ z => z)
  obtain ⟨hk, x, H1, I1, r1, q1⟩ := q
  exact thn (q1.run pos pins s1 hk I1) fun us s2 ⟨xs, H2, I2, r2, q2⟩ => ⟨x :: xs, H2, I2, .cons r1 r2, q2⟩
/-- e + 'text' -/
theorem zes_addlit {z : Str} {j : Nat} {c0 : Pos} (h : ZE X a σ H fun x H1 => OpW X σ (binaryOp .Add) x (.str z) H1 Q) : ZEs X (.BinOp a .Add (.Constant (.str z) j c0) pos) σ H Q := by
  refine ⟨fun pins s I => ?_⟩
  refine wpAny_BinOp (thn (h.run pins s I) fun v s1 ⟨x, H1, I1, r1, q1⟩ => Calls.Constant_str ?_)
  refine wpAny_mono (PySem.wpAny_toks (q1.run pins { s1 with toks := s1.toks + 1 } v (.str z s1.toks) (I1.tok (s1.toks + 1)) r1 ⟨_, rfl⟩)) (fun u s2 q => ⟨?_, q.2⟩) fun _ _ z => z.2
  have : s1.toks + 1 ≤ s2.toks := q.1
  omega
theorem ze1_repl {y z : Str} {j k : Nat} {c0 c1 : Pos} (h : ZE X a σ H fun v H1 => ∃ x, v = .str x ∧ x.length + (x.length + 1) * z.length ≤ 16777216 ∧ Q (.str (Txt.replace x y z)) H1) (hyz : (y == z) = false := by decide)
    (hst : starEach [.Constant (.str y) j c0, .Constant (.str z) k c1] X.env = [(false, eval (.Constant (.str y) j c0) X.env), (false, eval (.Constant (.str z) k c1) X.env)] := by rfl)
    (hbase : attributeBase a "replace" X.env (eval a X.env) = eval a X.env := by rfl) (hline : (apos.endLine == pos.line) = true := by rfl) :
    ZE1 X (.Call (.Attribute a "replace" apos) [.Constant (.str y) j c0, .Constant (.str z) k c1] [] pos) σ H Q :=
  ⟨fun pins s h0 I => CwR.pet_replC (to := fun σ H Q => ZE X a σ H Q) pe_we hyz hst hbase hline pins s σ H Q h0 I h⟩
/-! ### names within a block -/
theorem b_name {N : List Str} {M : Nat} {sc : Scope} {x : Str} {i : Nat} {v : V} (S : NOk N M sc) (hN : X.N = N) (at_ : At N σ x i v) (hv : Vis X.env.scope x) (hd : (x == ("__debug__" : Str)) = false) (hcd : (x == ("__classdict__" : Str)) = false) (q : Q v H) : ZE X (.Name x pos) σ H Q :=
  ze_var i (by rw [hN]; exact at_.get.1) at_.get.2 q hv hd hcd
theorem b_gname {Q : St → Hp → Prop} {N : List Str} {M : Nat} {sc : Scope} {x : Str} {i : Nat} {v : V} (S : NOk N M sc) (hN : X.N = N) (sa : SetAt N σ x i v σ') (hx : Loc X.env.scope x) (hf : X.fn x = true ∨ X.env.scope.names.lookup x = some .local) (q : Q σ' H) : ZG X (.Name x pos) v σ H Q :=
  zg_name i (by rw [hN]; exact S.nd) (by rw [hN]; exact sa.get.1) (by rw [sa.get.2]; exact q) hx hf
end
section
variable {X : Cx} {elt tg iter c : Expr} {scope : Scope} {own : List (Str × Nat)} {pos : Pos} {σ : St} {H : Hp} {Q : VK}
/-- [elt for tg in range(lo, hi) if c] -/
theorem ze_lcR2i {e b : Expr} {p : Pos} {rpos : Pos} (hc : X.calm = true) (hN : X.N.Nodup) (ok : BlkOk X.N X.env.scope scope own) (hm : X.mg "range" = none)
    (h : ZA X [e, b] σ H fun vs H1 => ∃ lo j : Int, vs = [.int lo, .int j] ∧ (-(2 ^ 62) ≤ lo ∧ lo < 2 ^ 62 ∧ -(2 ^ 62) ≤ j ∧ j < 2 ^ 62) ∧ ∀ D, NoA H1 D → ∃ Pv : Nat → Hp → Prop, Pv 0 (upd H1 D (.lst [])) ∧
      (∀ (i : Nat) H, i < (j - lo).toNat → Pv i H → gBlk X scope tg (.int (lo + i)) (wipe σ (own.map (·.2))) H fun σ2 H2 => wipe σ2 (own.map (·.2)) = wipe σ (own.map (·.2)) ∧ tBlk X scope c σ2 H2 fun k H3 => if k = true then eBlk X scope elt σ2 H3 fun y H4 => ∃ acc, H4 D = some (.lst acc) ∧ acc.length < sizeLine ∧ Pv (i + 1) (upd H4 D (.lst (acc ++ [y]))) else Pv (i + 1) H3) ∧
      ∀ H, Pv (j - lo).toNat H → Q (.ref D) H)
    (hg : Gl X "range" := by rfl) (hst : starEach [e, b] X.env = [(false, eval e X.env), (false, eval b X.env)] := by rfl) (hst2 : starEach [b] X.env = [(false, eval b X.env)] := by rfl) (hs : ∀ x, foldedSetIterable (.Call (.Name "range" p) [e, b] [] rpos) X.env x = pure x := by intro _; rfl) :
    ZE X (.ListComp elt [⟨tg, .Call (.Name "range" p) [e, b] [] rpos, [c], 0⟩] scope pos) σ H Q := by
  refine (pe_lc (tt := tBlk X scope c) hc hN (pi_range2 (tg := tg) hg hm pa_wa hst hst2) ok pg_blk (fun s H C cl fp => pts_one (pt_blk s H C cl fp)) pe_blk hs).w ?_
  refine ⟨fun ps pins s I => thn (h.run ps pins s I) fun u s1 hh => ?_⟩
  obtain ⟨vs, H1, I1, r1, lo, j, ex, l1, k⟩ := hh
  refine ⟨vs, H1, I1, r1, lo, j, ex, l1, fun D hD => ?_⟩
  obtain ⟨Pv, h0, hs', hd⟩ := k D ⟨hD⟩
  exact lc_range (lo := lo) (g := gBlk X scope tg) (te := eBlk X scope elt) (tt := tBlk X scope c) Pv h0 (fun i H hx hp => hs' i _ hx hp) hd
end
section
variable {X : Cx} {H : Hp} {Q : VK} {z z2 : Str} {p : Addr} {xs : List V}
theorem mw_split (hz2 : (z2.length == 0) = false) (hz : z.length + 2 ≤ sizeLine) (h : ∀ p, NoA H p → Q (.ref p) (upd H p (.lst ((Txt.split z z2).map V.str)))) : MtW X "str.split" (.str z) [.str z2] H Q := MtR.w mt_split ⟨z, z2, rfl, rfl, hz2, hz, fun p n => h p ⟨n⟩⟩
theorem ow_inS {l : List Str} (hs : SqL X.K H p (l.map V.str) ∨ SqT X.K H p (l.map V.str)) (h : Q (.bl (decide (z ∈ l))) H) : OpW X σ (compareOp .In) (.str z) (.ref p) H Q := ow_in hs rfl (by simp [List.all_map, flatV]) (by rw [inV_str]; exact h)
theorem ow_notinS {l : List Str} (hs : SqL X.K H p (l.map V.str) ∨ SqT X.K H p (l.map V.str)) (h : Q (.bl (!decide (z ∈ l))) H) : OpW X σ (compareOp .NotIn) (.str z) (.ref p) H Q := ow_notin hs rfl (by simp [List.all_map, flatV]) (by rw [inV_str]; exact h)
end
end L2
namespace L2
open PySem PySem.Spec PyProof.Rows
theorem xw_lstP {X : Cx} {H : Hp} {Q : VK} {p : Addr} {xs : List V} {i : Int} {P : V → Prop} (hs : SqL X.K H p xs) (h0 : 0 ≤ i) (h1 : i < xs.length) (hp : ∀ v ∈ xs, P v) (h : ∀ v, P v → Q v H) : IxW X σ (.ref p) (.int i) H Q := by
  obtain ⟨x, hx, hx2⟩ := atI_lt h0 h1
  exact xw_lst hs hx2 (h x (hp x (List.mem_of_getElem? hx)))
theorem All.nil {P : V → Prop} : ∀ v ∈ ([] : List V), P v := fun v h => by cases h
theorem All.cons {P : V → Prop} {a : V} {l : List V} (h : P a) (t : ∀ v ∈ l, P v) : ∀ v ∈ a :: l, P v := fun v hv => by
  rcases List.mem_cons.mp hv with rfl | hv
  · exact h
  · exact t v hv
theorem All.app {P : V → Prop} {a l : List V} (h : ∀ v ∈ a, P v) (t : ∀ v ∈ l, P v) : ∀ v ∈ a ++ l, P v := fun v hv => (List.mem_append.mp hv).elim (h v) (t v)
end L2
namespace L2
open PySem PySem.Spec PyProof.Rows
theorem ow_eqD {X : Cx} {H : Hp} {Q : VK} {x y : V} {d e : PyData} {r : Bool} (hu : X.A.units + 64 < cLine) (hx : Dp X.K H x d) (hy : Dp X.K H y e) (h1 : SeqAt.shaped d = true) (h2 : SeqAt.shaped e = true) (hr : PyData.eqv d e = r) (h : Q (.bl r) H) : OpW X σ (compareOp .Eq) x y H Q :=
  (op_eqD hu).w ⟨d, e, hx, hy, h1, h2, by rw [hr]; exact h⟩
theorem Room.u64 {k : Nat} {A : Around} (h : Room k A) : A.units + 64 < cLine := by have := h.un; omega
theorem zss_cut {X : Cx} {st : Stmt} {rest : List Stmt} {nx bk ct : NX} {rt : VK} {σ : St} {H : Hp} (Mid : NX) (h1 : ZS X st Mid rt bk ct σ H) (h2 : ∀ σ' H', Mid σ' H' → ZSs X rest nx rt bk ct σ' H') : ZSs X (st :: rest) nx rt bk ct σ H := by
  refine zss_cons ⟨fun pins s I => wpAny_mono (h1.run pins s I) (fun fl s' hs => ?_) fun _ _ z => z⟩
  cases fl with
  | next =>
    obtain ⟨σ', H', J, q⟩ := hs
    exact ⟨σ', H', J, h2 σ' H' q⟩
  | ret u => exact hs
  | brk => exact hs
  | cont => exact hs
end L2

/-! Objects of own classes: made, their fields, isinstance. -/
namespace L2
open PySem PySem.Spec PyProof.Rows
/-- a class as a name of the module, with what its __init__ promises (arguments behind the given ones by their defaults) -/
structure CalC (P : Program) (w : World) (K : PySem.W.Frag) (mg : Str → Option Value) (base : Heap) (k : Nat) (x : Str) (C : Addr) (sp : Sp) : Prop where
  ex : ∃ (f : Addr) (fd : FuncData) (ps : List Str) (sp0 : Sp), L2.Mk K C f ∧ FnOk P w K mg base (L2N.CX P w) k f fd ps sp0 ∧ mg x = some (.ref C) ∧ ∀ vs H Q E, sp vs H Q E → ∃ (dvs : List V) (ds : List Value), Binds K fd ps ds ∧ Vals dvs ds ∧ sp0 (vs ++ dvs) H Q E
section
variable {X : Cx} {e : Expr} {es : List Expr} {σ : St} {H : Hp} {Q : VK} {p pos : Pos}
theorem mrun {k : Nat} {C f : Addr} {fd : FuncData} {ps : List Str} {sp : Sp} {pins : List (Addr × Obj)} {s : Shared} {us : List Value} {vs : List V} (M : L2.Mk X.K C f) (F : FnOk X.prog X.w X.K X.mg X.base (L2N.CX X.prog X.w) k f fd ps sp) (hr : Room (k + 1) X.A)
    (I : Inv X pins σ H s) (r : Vals vs us) (h : ∀ a dx, NoA H a → NoA H dx → dx ≠ a → ∃ (dvs : List V) (ds : List Value), Binds X.K fd ps ds ∧ Vals dvs ds ∧ sp (.ref a :: (vs ++ dvs)) (upd (upd H dx (.own a)) a (.ins C dx [])) (fun v H2 => v = .non ∧ Q (.ref a) H2) (fun cls d H' => XW X cls d σ H')) : wpAny (model X.prog X.w) X.A (call (.ref C) us) (EP X pins σ Q) X.xe s := by
  have f1 : NoA H (s.heap.objs.size + 1) := ⟨I.hok.fresh (Nat.le_succ _)⟩
  have f2 : NoA H s.heap.objs.size := ⟨I.hok.fresh (Nat.le_refl _)⟩
  obtain ⟨dvs, ds, hb, hd, want⟩ := h _ _ f1 f2 (Nat.ne_of_lt (Nat.lt_succ_self _))
  have made := Inv.made (C := C) I
  have vals : Vals (V.ref (s.heap.objs.size + 1) :: (vs ++ dvs)) (Value.ref (s.heap.objs.size + 1) :: (us ++ ds)) := .cons rfl (r.append hd)
  have len : (Value.ref (s.heap.objs.size + 1) :: us ++ ds).length = ps.length := (vals.length.symm.trans (F.len _ _ _ _ want) : _)
  have bind := hb _ (Value.ref (s.heap.objs.size + 1) :: us) made.kIn len
  have body := F.run _ X.stack _ _ ⟨Value.ref (s.heap.objs.size + 1) :: us, []⟩ _ _ _ _ (hr.make C us []) (made.env0.make C us []) bind vals want
  refine wpAny_call (make_map (f := f) I.kIn M.makes M.init (beq_iff_eq.mp M.fn) (codeAny_mono body fun r s' got => ?_))
  cases r with
  | error ev => exact takes_xw ev s' (L2N.XE.of_call made (fun cls d H' w => w) got)
  | ok fl =>
    cases fl with
    | ret u =>
      obtain ⟨v, H', J, rv, ev, q3⟩ := made.after got
      subst ev
      exact ⟨rv, V.ref (s.heap.objs.size + 1), H', J, rfl, q3⟩
    | next => exact got.elim
    | brk => exact got.elim
    | cont => exact got.elim
theorem ze_make {x : Str} {C : Addr} {k j : Nat} {sp : Sp} (c : CalC X.prog X.w X.K X.mg X.base k x C sp) (hr : Room j X.A) (hk : k + 1 ≤ j) (h : ZA X (e :: es) σ H fun vs H1 => ∀ a dx, NoA H1 a → NoA H1 dx → dx ≠ a → sp (.ref a :: vs) (upd (upd H1 dx (.own a)) a (.ins C dx [])) (fun v H2 => v = .non ∧ Q (.ref a) H2) (fun cls d H' => XW X cls d σ H')) (hg : Gl X x)
    (hdb : (x == ("__debug__" : Str)) = false) (he : starEach (e :: es) X.env = (false, eval e X.env) :: starEach es X.env) (hpl : (backTo pos (starEach es X.env)).any (·.1) = false) : ZE X (.Call (.Name x p) (e :: es) [] pos) σ H Q := by
  obtain ⟨f, fd, ps, sp0, M, F, gm, im⟩ := c.ex
  refine ⟨fun pins s I => ?_⟩
  refine wpAny_Call_Name_kw (ld_glob I hg gm ?_ hdb)
  refine PySem.W.callWith_K (h₀ := X.base) I.ok.mod.kin M.kp (thn (h.run pos pins s I) fun us s1 ⟨vs, H1, I1, r, q⟩ => ⟨I1.kIn, ?_⟩) he hpl
  exact mrun M F (hr.mono hk) I1 r fun a dx n1 n2 ne => im (.ref a :: vs) _ _ _ (q a dx n1 n2 ne)
theorem s_make {P : Program} {w : World} {K : PySem.W.Frag} {mg : Str → Option Value} {base : Heap} {A : Around} {x : Str} {C : Addr} {k j : Nat} {sp : Sp} (c : CalC P w K mg base k x C sp) (hr : Room j A) (hk : k + 1 ≤ j) (hX : XIs X P w K mg base A)
    (h : ZA X (e :: es) σ H fun vs H1 => ∀ a dx, NoA H1 a → NoA H1 dx → dx ≠ a → sp (.ref a :: vs) (upd (upd H1 dx (.own a)) a (.ins C dx [])) (fun v H2 => v = .non ∧ Q (.ref a) H2) (fun cls d H' => XW X cls d σ H')) (hg : Gl X x)
    (hdb : (x == ("__debug__" : Str)) = false) (he : starEach (e :: es) X.env = (false, eval e X.env) :: starEach es X.env) (hpl : (backTo pos (starEach es X.env)).any (·.1) = false) : ZE X (.Call (.Name x p) (e :: es) [] pos) σ H Q := by
  obtain ⟨rfl, rfl, rfl, rfl, rfl, rfl⟩ := hX
  exact ze_make c hr hk h hg hdb he hpl
end
/-- what the written part says of an own class for isinstance -/
structure ClsI (K : PySem.W.Frag) (C : Addr) : Prop where
  cl : Cls K C
  ha : PySem.W.findIn K (.ref C) "__class__" = some (some (.builtin "object.__class__"))
  hn : PySem.W.specialIn K (.builtin "object.__class__") "__get__" = some (some (.builtin "getset_descriptor.__get__"))
  ht : PySem.W.takesIn K (.builtin "object.__class__") = some true
  hm : PySem.W.mroIn K C (.type "object") = some true
theorem ClsI.ty {K : PySem.W.Frag} {C p dx : Addr} {H : Hp} {fs : List (Str × V)} (c : ClsI K C) (e : H p = some (.ins C dx fs)) : TyX K H (.ref p) (.ref C) := .base (.ins e c.cl c.ha c.hn c.ht c.hm)
theorem kit_self {K : PySem.W.Frag} {C : Addr} : PySem.W.kitOne K (.ref C) (.ref C) = some true := by
  unfold PySem.W.kitOne
  rw [if_pos (by simp)]
theorem putF_base (y : V) : putF "base" y [] = [(("base" : Str), y)] := rfl
end L2
namespace L2
open PySem PySem.Spec PyProof.Rows
/-! ### sizes in bits -/
def Bd (N : Nat) (i : Int) : Prop := i.natAbs < 2 ^ N
theorem Bd.mono {N M : Nat} {i : Int} (h : Bd N i) (l : N ≤ M) : Bd M i := Nat.lt_of_lt_of_le h (Nat.pow_le_pow_right (by decide) l)
theorem Bd.mul {N M : Nat} {i j : Int} (h : Bd N i) (k : Bd M j) : Bd (N + M) (i * j) := by
  unfold Bd at *
  rw [Int.natAbs_mul, Nat.pow_add]
  exact Nat.mul_lt_mul'' h k
theorem Bd.one : Bd 1 1 := by unfold Bd; decide
theorem Bd.pow {N : Nat} {i : Int} (h : Bd N i) : ∀ n : Nat, Bd (N * n + 1) (i ^ n)
  | 0 => by unfold Bd; simp
  | n + 1 => by
    have ih := Bd.pow h n
    rw [Int.pow_succ]
    exact (ih.mul h).mono (by rw [Nat.mul_succ]; omega)
theorem Bd.log {N : Nat} {i : Int} (h : Bd N i) : i.natAbs.log2 ≤ N := by
  by_cases z : i.natAbs = 0
  · rw [z]; simp
  · exact Nat.le_of_lt ((Nat.log2_lt z).mpr h)
theorem Bd.cmul {N M : Nat} {i j : Int} (h : Bd N i) (k : Bd M j) (l : N + M < 1000000) : CMulW i j := by
  unfold CMulW
  have a := h.log
  have b := k.log
  omega
theorem Bd.neg {N : Nat} {i : Int} (h : Bd N i) : Bd N (-i) := by unfold Bd at *; rwa [Int.natAbs_neg]
theorem Bd.of {N : Nat} {i : Int} (h1 : -(2 ^ N : Int) < i) (h2 : i < 2 ^ N) : Bd N i := by
  unfold Bd
  have : ((2 ^ N : Nat) : Int) = (2 : Int) ^ N := by push_cast; rfl
  omega
end L2
namespace L2
open PySem PySem.Spec PyProof.Rows
/-- for tg in reversed(range(n)): turn i takes n - 1 - i -/
theorem zs_forRev {X : Cx} {tg e : Expr} {body : List Stmt} {σ : St} {H : Hp} {nx bk ct : NX} {rt : VK} {pos p p2 rp rp2 : Pos} (hp : PassesOwn (model X.prog X.w) X.A X.env X.xe) (hc : X.calm = true) (hm : X.mg "range" = none) (hm2 : X.mg "reversed" = none)
    (h : ZE X e σ H fun x H1 => ∃ j : Nat, x = .int j ∧ j < 2 ^ 62 ∧ ∃ Iv : Nat → St → Hp → Prop, Iv 0 σ H1 ∧ (∀ (i : Nat) σ1 H2, i < j → Iv i σ1 H2 → ZG X tg (.int ((j - 1 - i : Nat) : Int)) σ1 H2 fun σ2 H3 => ZSs X body (Iv (i + 1)) rt nx (Iv (i + 1)) σ2 H3) ∧ ∀ σ1 H2, Iv j σ1 H2 → nx σ1 H2)
    (hg : Gl X "range" := by rfl) (hg2 : Gl X "reversed" := by rfl) (hs : ∀ x, foldedSetIterable (.Call (.Name "reversed" p) [.Call (.Name "range" p2) [e] [] rp] [] rp2) X.env x = pure x := by intro _; rfl)
    (na : starEach [e] X.env = (false, eval e X.env) :: starEach [] X.env := by rfl) (na2 : starEach [.Call (.Name "range" p2) [e] [] rp] X.env = (false, eval (.Call (.Name "range" p2) [e] [] rp) X.env) :: starEach [] X.env := by rfl) :
    ZS X (.For tg (.Call (.Name "reversed" p) [.Call (.Name "range" p2) [e] [] rp] [] rp2) body [] pos) nx rt bk ct σ H := by
  refine zs_for hp hc ((pi_revR (tg := tg) hg2 hm2 (prg_1 hg hm pe_we na) na2).w ?_) hs
  refine ⟨fun pins s I => thn (h.run pins s I) fun u s1 hh => ?_⟩
  obtain ⟨x, H1, I1, r1, j, ex, hj, Iv, i0, st, fi⟩ := hh
  refine ⟨x, H1, I1, r1, (j : Int), ex, by omega, by omega, by omega, by omega, ?_⟩
  have e0 : ((j : Int) - 0).toNat = j := by omega
  rw [e0]
  refine ⟨fun i m σ' H' => m = j - i ∧ i ≤ j ∧ Iv i σ' H', ⟨_, rfl, Nat.zero_le _, i0⟩, ?_⟩
  rintro i m σ' H' ⟨rfl, hi, iv⟩
  by_cases hlt : i < j
  · refine .inr ⟨hlt, Iv (i + 1), fun σ2 H2 q => ⟨_, by omega, rfl, hlt, q⟩, fun x H2 y => ?_⟩
    obtain ⟨rfl, rfl⟩ := y
    have := st i σ' _ hlt iv
    rw [show (0 + (j : Int) - 1 + (i : Int) * -1) = ((j - 1 - i : Nat) : Int) by omega]
    exact this
  · have e : i = j := by omega
    subst e
    exact .inl ⟨Nat.le_refl _, fi _ _ iv⟩
end L2

namespace L2
open PySem PySem.Spec PyProof.Rows
/-! ### sizes in digits of a base -/
def Sm (b : Int) (n : Nat) (c : Int) : Prop := c.natAbs < b.natAbs ^ n
theorem Sm.mono {b c : Int} {n m : Nat} (h : Sm b n c) (b1 : 1 ≤ b) (l : n ≤ m) : Sm b m c := Nat.lt_of_lt_of_le h (Nat.pow_le_pow_right (by omega) l)
theorem Sm.bd {b c : Int} {n : Nat} (h : Sm b n c) (b0 : 0 ≤ b) (b9 : b ≤ 36) : Bd (6 * n) c := by
  refine Nat.lt_of_lt_of_le h ?_
  rw [Nat.pow_mul]
  exact Nat.pow_le_pow_left (by omega) _
theorem Sm.mulp {b c : Int} {n : Nat} (h : Sm b n c) (b1 : 1 ≤ b) (k : Nat) : Sm b (n + k) (c * b ^ k) := by
  unfold Sm at *
  rw [Int.natAbs_mul, Int.natAbs_pow, Nat.pow_add]
  exact Nat.mul_lt_mul_of_pos_right h (Nat.pow_pos (by omega))
theorem Sm.step {b x d : Int} {n : Nat} (h : Sm b n x) (x0 : 0 ≤ x) (d0 : 0 ≤ d) (d9 : d < b) : Sm b (n + 1) (x * b + d) := by
  obtain ⟨x, rfl⟩ := Int.eq_ofNat_of_zero_le x0
  obtain ⟨d, rfl⟩ := Int.eq_ofNat_of_zero_le d0
  obtain ⟨b, rfl⟩ := Int.eq_ofNat_of_zero_le (show 0 ≤ b by omega)
  unfold Sm at *
  have e : ((x : Int) * (b : Int) + (d : Int)) = ((x * b + d : Nat) : Int) := by push_cast; rfl
  rw [e]
  simp only [Int.natAbs_natCast] at *
  have h1 : (x + 1) * b ≤ b ^ n * b := Nat.mul_le_mul_right _ h
  rw [Nat.add_mul] at h1
  rw [Nat.pow_succ]
  omega
theorem Sm.neg {b c : Int} {n : Nat} (h : Sm b n c) : Sm b n (-c) := by unfold Sm at *; rwa [Int.natAbs_neg]
theorem Sm.sgn {b c s : Int} {n : Nat} (h : Sm b n c) (hs : s.natAbs ≤ 1) : Sm b n (c * s) := by
  unfold Sm at *
  rw [Int.natAbs_mul]
  exact Nat.lt_of_le_of_lt (Nat.le_trans (Nat.mul_le_mul_left _ hs) (by rw [Nat.mul_one]; exact Nat.le_refl _)) h
theorem Sm.cnt {b r c : Int} {n k : Nat} (h : Sm b n c) (b2 : 2 ≤ b) (e : r * b ^ k = c) (c0 : c ≠ 0) : k < n := by
  unfold Sm at h
  rw [← e, Int.natAbs_mul, Int.natAbs_pow] at h
  have r0 : r.natAbs ≠ 0 := fun z => c0 (by rw [← e, Int.natAbs_eq_zero.mp z, Int.zero_mul])
  have h2 : b.natAbs ^ k ≤ r.natAbs * b.natAbs ^ k := Nat.le_mul_of_pos_left _ (by omega)
  exact (Nat.pow_lt_pow_iff_right (show 1 < b.natAbs by omega)).mp (Nat.lt_of_le_of_lt h2 h)
end L2
namespace L2
open PySem PySem.Spec PyProof.Rows
theorem binds_all {K : PySem.W.Frag} {fd : FuncData} {ps : List Str} {dvs : List V} {j : Nat} (h : ∃ ds, Vals (dvs.drop j) ds ∧ Binds K fd ps ds) (e : dvs.drop j = [] := by rfl) : Binds K fd ps [] := by
  obtain ⟨ds, v, b⟩ := h
  rw [e] at v
  cases v
  exact b
end L2
namespace L2
open PySem PySem.Spec PyProof.Rows
/-! ### properties of own classes (getters that raise nothing) -/
structure CalP (P : Program) (w : World) (K : PySem.W.Frag) (mg : Str → Option Value) (base : Heap) (k : Nat) (C : Addr) (f : Str) (sp : Sp) : Prop where
  ex : ∃ (p g : Addr) (fd : FuncData) (ps : List Str), PropOf K C f p g ∧ FnOk P w K mg base (L2N.CX P w) k g fd ps sp ∧ Binds K fd ps []
theorem aw_prop {X : Cx} {P : Program} {w : World} {K : PySem.W.Frag} {mg : Str → Option Value} {base : Heap} {A : Around} {H : Hp} {Q : VK} {a C dx : Addr} {fs : List (Str × V)} {f : Str} {k j : Nat} {sp : Sp} (c : CalP P w K mg base k C f sp) (cl : Cls K C) (hr : Room j A) (hk : k + 1 ≤ j) (hX : XIs X P w K mg base A) (ea : H a = some (.ins C dx fs)) (h : sp [.ref a] H Q (fun _ _ _ => False)) : AtW X f (.ref a) H Q := by
  obtain ⟨rfl, rfl, rfl, rfl, rfl, rfl⟩ := hX
  obtain ⟨p, g, fd, ps, hp, F, hb⟩ := c.ex
  refine ⟨fun pins s σ u I rx => ?_⟩
  obtain rfl : u = Value.ref a := rx
  exact getprop_ok (CX := L2N.CX X.prog X.w) (dvs := []) (ds := []) I ea cl hp F (hr.mono hk) hb .nil (fun _ _ _ _ _ _ _ z => (cxn_no (fun _ _ _ z => z) z).elim) h
end L2
namespace L2
open PySem PySem.Spec PyProof.Rows
/-! ### operators by own methods -/
section
variable {X : Cx} {P : Program} {w : World} {K : PySem.W.Frag} {mg : Str → Option Value} {base : Heap} {A : Around} {σ : St} {H : Hp} {Q : VK} {a b C C' dx dy : Addr} {fs gs : List (Str × V)} {m : Str} {k j : Nat} {sp : Sp} {y : V}
theorem own_run {pins : List (Addr × Obj)} {s : Shared} {v : Value} (cm : CalM X.prog X.w X.K X.mg X.base k C m sp) (hr : Room j X.A) (hk : k ≤ j) (I : Inv X pins σ H s) (ry : RelV y v) (h : sp [.ref a, y] H Q fun cls d H' => XW X cls d σ H') :
    ∃ f, PySem.W.findIn X.K (.ref C) m = some (some (.ref f)) ∧ PySem.W.isFn X.K (.ref f) = true ∧ wpAny (model X.prog X.w) X.A (call (.ref f) [.ref a, v]) (PySem.W.CmpBack (EP X pins σ Q)) X.xe s := by
  obtain ⟨f, fd, ps, dvs, ds, sp0, F, hm, hb, hd, im⟩ := cm.ex
  refine ⟨f, hm.at_, hm.fn, ?_⟩
  refine wpAny_mono (zrun (us := [.ref a, v]) (vs := [.ref a, y]) F (hr.mono hk) hb hd I (.cons rfl (.cons ry .nil)) (im _ _ _ _ h)) (fun u s' z => ?_) fun _ _ x => x
  obtain ⟨z', H', I', rz, qz⟩ := z
  exact SlX.cmpback rz ⟨z', H', I', rz, qz⟩
theorem ins_inst {pins : List (Addr × Obj)} {s : Shared} (I : Inv X pins σ H s) (ea : H a = some (.ins C dx fs)) : ∃ o od, PySem.W.InstAt s.heap a o C od := by
  obtain ⟨mA, O, _⟩ := ins_get I.hok ea
  obtain ⟨od, J, _⟩ := O.look
  exact ⟨_, _, J⟩
/-- x op y, both of one own class -/
theorem ow_own {op : Operator} (cm : CalM P w K mg base k C m sp) (hc : PySem.W.selfFirst K C = true) (hr : Room j A) (hk : k ≤ j) (hX : XIs X P w K mg base A) (hm : PySem.dunder op.info.2 = m) (ea : H a = some (.ins C dx fs)) (eb : H b = some (.ins C dy gs))
    (h : sp [.ref a, .ref b] H Q fun cls d H' => XW X cls d σ H') : OpW X σ (binaryOp op) (.ref a) (.ref b) H Q := by
  obtain ⟨rfl, rfl, rfl, rfl, rfl, rfl⟩ := hX
  refine ⟨fun pins s v u I rx ry => ?_⟩
  cases (show v = Value.ref a from rx)
  cases (show u = Value.ref b from ry)
  obtain ⟨_, _, J⟩ := ins_inst I ea
  obtain ⟨_, _, J'⟩ := ins_inst I eb
  obtain ⟨mm, hF⟩ := I.fr
  obtain ⟨f, h1, h2, h3⟩ := own_run (a := a) (y := .ref b) (v := .ref b) cm hr hk I rfl h
  exact PySem.W.binop_K hF I.ok.mod.kin J J'.type hc (by rw [hm]; exact h1) h2 h3
/-- what the written part says of an operator with an int on the right -/
structure BinT (K : PySem.W.Frag) (C : Addr) (nm : String) : Prop where
  hr : ∃ rc, PySem.W.findIn K (.ref C) (PySem.dunderR nm) = some rc ∧ (rc = none ∨ ∃ g : Addr, rc = some (.ref g))
  h1 : ∃ fo, PySem.W.findIn K (.type "int") (PySem.dunder nm) = some fo
  h2 : ∃ ro, PySem.W.findIn K (.type "int") (PySem.dunderR nm) = some ro
  hsub : PySem.W.subIn K (.type "int") (.ref C) = some false
/-- x op i, x of an own class -/
theorem ow_ownI {op : Operator} {i : Int} (cm : CalM P w K mg base k C m sp) (hc : PySem.W.selfFirst K C = true) (T : BinT K C op.info.2) (hr : Room j A) (hk : k ≤ j) (hX : XIs X P w K mg base A) (hm : PySem.dunder op.info.2 = m) (ea : H a = some (.ins C dx fs))
    (h : sp [.ref a, .int i] H Q fun cls d H' => XW X cls d σ H') : OpW X σ (binaryOp op) (.ref a) (.int i) H Q := by
  obtain ⟨rfl, rfl, rfl, rfl, rfl, rfl⟩ := hX
  refine ⟨fun pins s v u I rx ry => ?_⟩
  cases (show v = Value.ref a from rx)
  obtain ⟨t, rfl⟩ := ry
  obtain ⟨_, _, J⟩ := ins_inst I ea
  obtain ⟨mm, hF⟩ := I.fr
  obtain ⟨f, h1, h2, h3⟩ := own_run (a := a) (y := .int i) (v := .int i t) cm hr hk I ⟨t, rfl⟩ h
  obtain ⟨⟨rc, r1, r2⟩, ⟨fo, t1⟩, ⟨ro, t2⟩, sb⟩ := T
  exact PySem.W.ksp_binT (T := "int") hF I.ok.mod.kin J rfl hc (by rw [hm]; exact h1) h2 r1 r2 t1 t2 sb h3
/-- x cmp y, both of own classes -/
theorem ow_ownC {op : CmpOp} (hop : ∀ a b, compareOp op a b = richCompare op a b) (cm : CalM P w K mg base k C m sp) (hn : PySem.W.notFirst K C (.ref C') = true) (hr : Room j A) (hk : k ≤ j) (hX : XIs X P w K mg base A) (hm : (cmpInfo op).2.1 = m) (ea : H a = some (.ins C dx fs)) (eb : H b = some (.ins C' dy gs))
    (h : sp [.ref a, .ref b] H Q fun cls d H' => XW X cls d σ H') : OpW X σ (compareOp op) (.ref a) (.ref b) H Q := by
  obtain ⟨rfl, rfl, rfl, rfl, rfl, rfl⟩ := hX
  refine ⟨fun pins s v u I rx ry => ?_⟩
  cases (show v = Value.ref a from rx)
  cases (show u = Value.ref b from ry)
  obtain ⟨_, _, J⟩ := ins_inst I ea
  obtain ⟨_, _, J'⟩ := ins_inst I eb
  obtain ⟨mm, hF⟩ := I.fr
  obtain ⟨f, h1, h2, h3⟩ := own_run (a := a) (y := .ref b) (v := .ref b) cm hr hk I rfl h
  rw [hop]
  exact PySem.W.cmp_K (op := op) (tb := .ref C') hr.units0 hF I.ok.mod.kin J J'.type hn (by rw [hm]; exact h1) h2 h3
theorem notFirst_self : PySem.W.notFirst K C (.ref C) = true := by simp [PySem.W.notFirst]
end
theorem CalM.of {P : Program} {w : World} {K : PySem.W.Frag} {mg : Str → Option Value} {base : Heap} {k : Nat} {C f : Addr} {m : Str} {fd : FuncData} {ps : List Str} {sp : Sp} (M : Meth K C m f) (F : FnOk P w K mg base (L2N.CX P w) k f fd ps sp) (b : Binds K fd ps []) : CalM P w K mg base k C m sp :=
  ⟨f, fd, ps, [], [], sp, F, M, b, .nil, fun vs H Q E h => by rw [List.append_nil]; exact h⟩
end L2
namespace L2
open PySem PySem.Spec PyProof.Rows
/-! ### steps for them -/
inductive BinM : Operator → Str → Prop
  | add : BinM .Add "__add__" | sub : BinM .Sub "__sub__" | mul : BinM .Mult "__mul__" | fdiv : BinM .FloorDiv "__floordiv__" | mod : BinM .Mod "__mod__" | pow : BinM .Pow "__pow__" | shl : BinM .LShift "__lshift__" | shr : BinM .RShift "__rshift__" | div : BinM .Div "__truediv__" | band : BinM .BitAnd "__and__"
theorem BinM.ok {op : Operator} {m : Str} (h : BinM op m) : PySem.dunder op.info.2 = m := by cases h <;> decide +kernel
inductive CmpM : CmpOp → Str → Prop
  | lt : CmpM .Lt "__lt__" | le : CmpM .LtE "__le__" | gt : CmpM .Gt "__gt__" | ge : CmpM .GtE "__ge__" | eq : CmpM .Eq "__eq__"
theorem CmpM.ok {op : CmpOp} {m : Str} (h : CmpM op m) : (cmpInfo op).2.1 = m ∧ ∀ a b, compareOp op a b = richCompare op a b := by cases h <;> exact ⟨by decide +kernel, fun _ _ => rfl⟩
/-- x is an object of the class at C, m no field of it -/
structure OwnAt (H : Hp) (C : Addr) (m : Str) (x : V) (R : Prop) : Prop where
  ex : ∃ p dx fs, x = .ref p ∧ H p = some (.ins C dx fs) ∧ fs.lookup m = none ∧ R
section
variable {X : Cx} {P : Program} {w : World} {K : PySem.W.Frag} {mg : Str → Option Value} {base : Heap} {A : Around} {σ : St} {H : Hp} {Q : VK} {a b C C' dx dy : Addr} {fs gs : List (Str × V)} {m : Str} {k j : Nat} {sp : Sp} {y : V} {e o : Expr} {es : List Expr} {pos apos : Pos}
theorem OwnAt.do {R : Prop} (e : H a = some (.ins C dx fs)) (l : fs.lookup m = none) (r : R) : OwnAt H C m (.ref a) R := ⟨_, _, _, rfl, e, l, r⟩
theorem ow_bin {op : Operator} (bm : BinM op m) (cm : CalM P w K mg base k C m sp) (hc : PySem.W.selfFirst K C = true) (hr : Room j A) (hk : k ≤ j) (hX : XIs X P w K mg base A) (ea : H a = some (.ins C dx fs)) (eb : H b = some (.ins C dy gs))
    (h : sp [.ref a, .ref b] H Q fun cls d H' => XW X cls d σ H') : OpW X σ (binaryOp op) (.ref a) (.ref b) H Q := ow_own cm hc hr hk hX bm.ok ea eb h
theorem ow_binI {op : Operator} {i : Int} (bm : BinM op m) (cm : CalM P w K mg base k C m sp) (hc : PySem.W.selfFirst K C = true) (T : BinT K C op.info.2) (hr : Room j A) (hk : k ≤ j) (hX : XIs X P w K mg base A) (ea : H a = some (.ins C dx fs))
    (h : sp [.ref a, .int i] H Q fun cls d H' => XW X cls d σ H') : OpW X σ (binaryOp op) (.ref a) (.int i) H Q := ow_ownI cm hc T hr hk hX bm.ok ea h
theorem ow_cmpO {op : CmpOp} (bm : CmpM op m) (cm : CalM P w K mg base k C m sp) (hr : Room j A) (hk : k ≤ j) (hX : XIs X P w K mg base A) (ea : H a = some (.ins C dx fs)) (eb : H b = some (.ins C dy gs))
    (h : sp [.ref a, .ref b] H Q fun cls d H' => XW X cls d σ H') : OpW X σ (compareOp op) (.ref a) (.ref b) H Q := ow_ownC bm.ok.2 cm notFirst_self hr hk hX bm.ok.1 ea eb h
theorem s_meth {pl : Sem Bool} (cm : CalM P w K mg base k C m sp) (cl : Cls K C) (hr : Room j A) (hk : k ≤ j) (hX : XIs X P w K mg base A) (h : ZE X o σ H fun x H1 => OwnAt H1 C m x (ZA X (e :: es) σ H1 fun vs H2 => sp (x :: vs) H2 Q fun cls d H' => XW X cls d σ H'))
    (hst : starEach (e :: es) X.env = (false, eval e X.env) :: starEach es X.env) (hpl : (backTo pos (starEach es X.env)).any (·.1) = false)
    (ht : eval (.Call (.Attribute o m apos) (e :: es) [] pos) X.env = (do
      let ov ← eval o X.env
      standAt apos.atName
      let (f, first) ← holding [ov] (getMethod ov m pl)
      callWith pos f first (backTo pos (starEach (e :: es) X.env)) (backToKw pos (keywordEach [] X.env)))) : ZE X (.Call (.Attribute o m apos) (e :: es) [] pos) σ H Q := by
  obtain ⟨rfl, rfl, rfl, rfl, rfl, rfl⟩ := hX
  refine ze_meth (pl := pl) hr ⟨fun pins s I => thn (h.run pins s I) fun u s1 ⟨x, H1, I1, rx, ⟨p, dx, fs, ex, ea, l, q⟩⟩ => ?_⟩ hst hpl ht
  exact ⟨x, H1, I1, rx, p, C, dx, fs, k, sp, ex, ea, cl, cm, hk, l, q⟩
theorem s_meth0 {pl : Sem Bool} (cm : CalM P w K mg base k C m sp) (cl : Cls K C) (hr : Room j A) (hk : k ≤ j) (hX : XIs X P w K mg base A) (h : ZE X o σ H fun x H1 => OwnAt H1 C m x (sp [x] H1 Q fun cls d H' => XW X cls d σ H'))
    (ht : eval (.Call (.Attribute o m apos) [] [] pos) X.env = (do
      let ov ← eval o X.env
      standAt apos.atName
      let (f, first) ← holding [ov] (getMethod ov m pl)
      callWith pos f first (backTo pos (starEach [] X.env)) (backToKw pos (keywordEach [] X.env)))) : ZE X (.Call (.Attribute o m apos) [] [] pos) σ H Q := by
  obtain ⟨rfl, rfl, rfl, rfl, rfl, rfl⟩ := hX
  obtain ⟨f, fd, ps, dvs, ds, sp0, F, hm, hb, hd, im⟩ := cm.ex
  refine ⟨fun pins s I => ?_⟩
  refine PySem.W.methodCall_KW (pl := pl) (thn (h.run pins s I) fun u s1 ⟨x, H1, I1, rx, ⟨p, dx, fs, ex, ea, l, q⟩⟩ => ?_) ht
  subst ex
  obtain rfl : u = Value.ref p := rx
  refine getmeth_ok I1 ea cl hm l ?_
  exact PySem.W.callWith_K0 (first := [.ref p]) I1.kIn hm.kp (zrun (us := [.ref p]) (vs := [.ref p]) F (hr.mono hk) hb hd I1 (.cons rfl .nil) (im _ _ _ _ q))
end
end L2
namespace L2
theorem Sm.pow {b : Int} (h : 2 ≤ b) (n : Nat) : Sm b (n + 1) (b ^ n) := by
  unfold Sm
  rw [Int.natAbs_pow]
  exact Nat.pow_lt_pow_right (by omega) (by omega)
theorem Sm.near {b c d : Int} {n : Nat} (h : Sm b n c) (b2 : 2 ≤ b) (hd : d.natAbs ≤ 1) : Sm b (n + 1) (c + d) := by
  unfold Sm at *
  have h1 : b.natAbs ^ n * 2 ≤ b.natAbs ^ n * b.natAbs := Nat.mul_le_mul_left _ (by omega)
  rw [Nat.pow_succ]
  omega
theorem Sm.ge {b c : Int} {n j : Nat} (h : Sm b n c) (hb : 2 ≤ b) (g : b ^ j ≤ (c.natAbs : Int)) : j < n := by
  unfold Sm at h
  have : ((b.natAbs ^ j : Nat) : Int) ≤ c.natAbs := by push_cast; rw [show ((b.natAbs : Nat) : Int) = b by omega]; exact g
  exact (Nat.pow_lt_pow_iff_right (show 1 < b.natAbs by omega)).mp (Nat.lt_of_le_of_lt (by omega) h)
end L2
namespace L2
theorem ipow_le {b : Int} (h : 1 ≤ b) {j k : Nat} (l : j ≤ k) : b ^ j ≤ b ^ k := by
  have p1 : (0 : Int) < b ^ j := Int.pow_pos (by omega)
  have p2 : (0 : Int) < b ^ (k - j) := Int.pow_pos (by omega)
  have m := Int.mul_le_mul_of_nonneg_left (Int.add_one_le_of_lt p2) (Int.le_of_lt p1)
  rwa [Int.zero_add, Int.mul_one, ← Int.pow_add, show j + (k - j) = k by omega] at m
end L2
namespace L2
open PySem PySem.Spec PyProof.Rows
theorem xw_lstN {X : Cx} {σ : St} {H : Hp} {Q : VK} {p : Addr} {xs : List V} {i : Int} {j : Nat} {v : V} (e : i = (j : Int)) (hs : SqL X.K H p xs) (g : xs[j]? = some v) (h : Q v H) : IxW X σ (.ref p) (.int i) H Q := by
  subst e; exact xw_lst hs (atI_nat g) h
end L2
namespace L2N
open PySem PySem.Spec PyProof.Rows L2
section
variable {X : Cx} {C : Addr} {bmB : List Value} {B newId initId : String}
/-- X(), X an own exception class without own __init__ -/
theorem pmk_own0 {x : Str} {p pos : Pos} (F : ExcBaseFacts B newId initId bmB) (q : PySem.W.excIn X.K C bmB newId = true) (gC : X.mg x = some (.ref C)) (kC : PySem.W.keepIn X.K (.ref C) = true) (r : Raises X (.ref C)) (hg : Gl X x)
    (hdb : (x == ("__debug__" : Str)) = false) : PMk X (.Call (.Name x p) [] [] pos) (fun _ H Q => Q (.ref C) none H) := by
  intro pins s σ H Q I h
  refine wpAny_Call_Name_kw (ld_glob I hg gC ?_ hdb)
  refine PySem.W.callWith_K0 I.kIn kC ?_
  obtain ⟨bm, N, nm, qn, bs, hdct, sn, sub, ab, col, dd, k0, k1, k2, k3, k5, mN, hC, hN, hni, T⟩ := exc_obj I.kIn q
  exact wpAny_call_exc_subT F T hC hN hni (fun h' e hm => mk_of I hm r h (I.hok.gone hm.new)) (Nat.zero_le _)
end
end L2N
namespace L2
open PySem PySem.Spec PyProof.Rows
/-- an own exception class without own __init__, below ValueError -/
structure XCls0 (K : PySem.W.Frag) (mg : Str → Option Value) (x : Str) (C : Addr) : Prop where
  T : PySem.LX.ExcT K C
  gC : mg x = some (.ref C)
  q : PySem.W.excIn K C [.type "ValueError", .type "Exception", .type "BaseException", .type "object"] "ValueError.__new__" = true
theorem s_raise0 {X : Cx} {σ : St} {H : Hp} {nx bk ct : NX} {rt : VK} {p pos pos2 : Pos} {P : Program} {w : World} {K : PySem.W.Frag} {mg : Str → Option Value} {base : Heap} {A : Around} {x : Str} {C : Addr} (c : XCls0 K mg x C) (hX : XIs X P w K mg base A) (hc : X.calm = true)
    (h : XW X (.ref C) none σ H) (hg : Gl X x) (hdb : (x == ("__debug__" : Str)) = false) : ZS X (.Raise (some (.Call (.Name x p) [] [] pos)) none pos2) nx rt bk ct σ H := by
  obtain ⟨rfl, rfl, rfl, rfl, rfl, rfl⟩ := hX
  exact (L2N.ps_raise hc takes_xw (L2N.pmk_own0 PySem.F.excBase_ValueError c.q c.gC c.T.ox.kC (raises_own c.T.ox.exC c.T.ox.tyC) hg hdb)).w h
end L2
namespace L2
open PySem PySem.Spec PyProof.Rows
def CDivA (_ j : Int) : Prop := j ≠ 0 ∧ j.natAbs.log2 < 9000
theorem ow_fdivA {X : Cx} {σ : St} {H : Hp} {Q : VK} {i j : Int} (hc : CDivA i j) (h : Q (.int (i.fdiv j)) H) : OpW X σ (binaryOp .FloorDiv) (.int i) (.int j) H Q :=
  OpR.w (r := rI CDivA fun i j => .int (i.fdiv j)) (opI fun _ _ _ _ _ _ _ hc q => floordiv_int hc.1 q (.inl (PyProof.noPylong_of_log2 hc.2))) ⟨i, j, rfl, rfl, hc, h⟩
end L2
namespace L2
open PySem PySem.Spec PyProof.Rows
theorem zg_lst {X : Cx} {es : List Expr} {σ : St} {H : Hp} {pos : Pos} {k : Nat} {n : Nat} {v : V} {Q : St → Hp → Prop} (hc : X.calm = true) (h : ∃ p xs, v = .ref p ∧ SqL X.K H p xs ∧ xs.length = n ∧ ZGs X es xs σ H Q)
    (hn : (assignEach es X.env).length = n := by rfl) (hst : (assignEach es X.env).findIdx? (·.1) = none := by rfl) : ZG X (.Tuple es k pos) v σ H Q := (pg_unl hc pgs_wgs hn hst).w h
end L2
namespace L2
open PySem PySem.Spec PyProof.Rows
/-- for tg in range(n), within an except suite's call -/
theorem zs_forRH {X : Cx} {tg e : Expr} {body : List Stmt} {σ : St} {H : Hp} {nx bk ct : NX} {rt : VK} {pos p rpos : Pos} (hp : PassesOwn (model X.prog X.w) X.A X.env X.xe) (hc : L2H.HotC X) (hm : X.mg "range" = none)
    (h : ZA X [e] σ H fun vs H1 => ∃ j : Int, vs = [.int j] ∧ -(2 ^ 62) ≤ j ∧ j < 2 ^ 62 ∧ ∃ Iv : Nat → St → Hp → Prop, Iv 0 σ H1 ∧
      (∀ (i : Nat) σ1 H2, (i : Int) < j → Iv i σ1 H2 → ZG X tg (.int i) σ1 H2 fun σ2 H3 => ZSs X body (Iv (i + 1)) rt nx (Iv (i + 1)) σ2 H3) ∧ ∀ σ1 H2, Iv j.toNat σ1 H2 → nx σ1 H2)
    (hg : Gl X "range" := by rfl) (hst : starEach [e] X.env = [(false, eval e X.env)] := by rfl) (hs : ∀ x, foldedSetIterable (.Call (.Name "range" p) [e] [] rpos) X.env x = pure x := by intro _; rfl) :
    ZS X (.For tg (.Call (.Name "range" p) [e] [] rpos) body [] pos) nx rt bk ct σ H := by
  refine (L2H.ps_forH hp hc (L2H.pi_range1H hg hm pa_wa hst) pg_wg pss_wss hs).w ?_
  refine ⟨fun ps pins s I => thn (h.run ps pins s I) fun u s1 hh => ?_⟩
  obtain ⟨vs, H1, I1, r1, j, ex, l1, l2, Iv, i0, st, fi⟩ := hh
  refine ⟨vs, H1, I1, r1, j, ex, l1, l2, fun i m σ' H' => m = j.toNat - i ∧ i ≤ j.toNat ∧ Iv i σ' H', ⟨_, rfl, Nat.zero_le _, i0⟩, ?_⟩
  rintro i m σ' H' ⟨rfl, hi, iv⟩
  by_cases hlt : i < j.toNat
  · refine .inr ⟨hlt, Iv (i + 1), fun σ2 H2 q => ⟨_, by omega, rfl, hlt, q⟩, fun x H2 y => ?_⟩
    obtain ⟨rfl, rfl⟩ := y
    have := st i σ' _ (by omega) iv
    simpa using this
  · have e : i = j.toNat := by omega
    subst e
    exact .inl ⟨Nat.le_refl _, fi _ _ iv⟩
theorem pass_defH {P : Program} {w : World} {K : PySem.W.Frag} {mg : Str → Option Value} {base : Heap} {N : List Str} {qual : Str} {scope : Scope} {f : Addr} {cd : Value} {A : Around} {outer : List Env} {s : Shared} {H0 : Hp} {E : XK} {p : Addr × Obj} : PassesOwn (model P w) (L2H.cxH (L2N.CX P w) P w K mg base N qual scope f cd A outer s H0 E p).A (L2H.cxH (L2N.CX P w) P w K mg base N qual scope f cd A outer s H0 E p).env (L2H.cxH (L2N.CX P w) P w K mg base N qual scope f cd A outer s H0 E p).xe := passes_of rfl
end L2
namespace L2
open PySem PySem.Spec PyProof.Rows
section
variable {X : Cx} {elt tg iter : Expr} {scope : Scope} {own : List (Str × Nat)} {pos spos py : Pos} {σ : St} {H : Hp} {nx bk ct : NX} {rt : VK} {i : Nat} {y : Str}
/-- y = [elt for tg in iter] -/
theorem zs_lcL (hc : X.calm = true) (hN : X.N.Nodup) (hy : X.N[i]? = some y) (hyl : X.env.scope.names.lookup y = some .local) (hsw : swapsWith (.ListComp elt [⟨tg, iter, [], 0⟩] scope pos) (some (.Name y py)) spos.line X.env = pure true) (ok : BlkOk X.N X.env.scope scope own)
    (h : ZE X iter σ H fun x H1 => ∃ a xs, x = .ref a ∧ SqL X.K H1 a xs ∧ ∀ D, NoA H1 D → ∃ Pv : Nat → Hp → Prop, Pv 0 (upd H1 D (.lst [])) ∧ (∀ i H, i ≤ xs.length → Pv i H → SqL X.K H a xs) ∧
      (∀ i x H, xs[i]? = some x → Pv i H → gBlk X scope tg x (wipe σ (own.map (·.2))) H fun σ2 H2 => wipe σ2 (own.map (·.2)) = wipe σ (own.map (·.2)) ∧ eBlk X scope elt σ2 H2 fun y H4 => ∃ acc, H4 D = some (.lst acc) ∧ acc.length < sizeLine ∧ Pv (i + 1) (upd H4 D (.lst (acc ++ [y])))) ∧
      ∀ H, Pv xs.length H → nx (σ.set i (some (.ref D))) H)
    (hs : ∀ x, foldedSetIterable iter X.env x = pure x := by intro _; rfl) : ZS X (.Assign [.Name y py] (.ListComp elt [⟨tg, iter, [], 0⟩] scope pos) spos) nx rt bk ct σ H := by
  refine (ps_setLc (tt := tYes) hc hN hy hyl hsw (pi_list (tg := tg) pe_we) ok pg_blk (fun _ _ _ _ _ => pts_nil) pe_blk hs).w ?_
  refine ⟨fun pins s I => thn (h.run pins s I) fun u s1 hh => ?_⟩
  obtain ⟨x, H1, I1, r1, a, xs, ex, hl, k⟩ := hh
  refine ⟨x, H1, I1, r1, a, ex, ⟨xs, hl⟩, fun D hD => ?_⟩
  obtain ⟨Pv, h0, hk, hs', hd⟩ := k D ⟨hD⟩
  refine lc_list (g := gBlk X scope tg) (te := eBlk X scope elt) (tt := tYes) Pv h0 hk (fun i x H hx hp => ?_) hd
  exact hs' i x _ hx hp
/-- y = [elt for tg in range(n)] -/
theorem zs_lcR {e : Expr} {p rpos : Pos} (hc : X.calm = true) (hN : X.N.Nodup) (hy : X.N[i]? = some y) (hyl : X.env.scope.names.lookup y = some .local) (hsw : swapsWith (.ListComp elt [⟨tg, .Call (.Name "range" p) [e] [] rpos, [], 0⟩] scope pos) (some (.Name y py)) spos.line X.env = pure true) (ok : BlkOk X.N X.env.scope scope own) (hm : X.mg "range" = none)
    (h : ZA X [e] σ H fun vs H1 => ∃ j : Int, vs = [.int j] ∧ -(2 ^ 62) ≤ j ∧ j < 2 ^ 62 ∧ ∀ D, NoA H1 D → ∃ Pv : Nat → Hp → Prop, Pv 0 (upd H1 D (.lst [])) ∧
      (∀ (i : Nat) H, i < j.toNat → Pv i H → gBlk X scope tg (.int i) (wipe σ (own.map (·.2))) H fun σ2 H2 => wipe σ2 (own.map (·.2)) = wipe σ (own.map (·.2)) ∧ eBlk X scope elt σ2 H2 fun y H4 => ∃ acc, H4 D = some (.lst acc) ∧ acc.length < sizeLine ∧ Pv (i + 1) (upd H4 D (.lst (acc ++ [y])))) ∧
      ∀ H, Pv j.toNat H → nx (σ.set i (some (.ref D))) H)
    (hg : Gl X "range" := by rfl) (hst : starEach [e] X.env = [(false, eval e X.env)] := by rfl) (hs : ∀ x, foldedSetIterable (.Call (.Name "range" p) [e] [] rpos) X.env x = pure x := by intro _; rfl) : ZS X (.Assign [.Name y py] (.ListComp elt [⟨tg, .Call (.Name "range" p) [e] [] rpos, [], 0⟩] scope pos) spos) nx rt bk ct σ H := by
  refine (ps_setLc (tt := tYes) hc hN hy hyl hsw (pi_range1 (tg := tg) hg hm pa_wa hst) ok pg_blk (fun _ _ _ _ _ => pts_nil) pe_blk hs).w ?_
  refine ⟨fun ps pins s I => thn (h.run ps pins s I) fun u s1 hh => ?_⟩
  obtain ⟨vs, H1, I1, r1, j, ex, l1, l2, k⟩ := hh
  refine ⟨vs, H1, I1, r1, j, ex, l1, l2, fun D hD => ?_⟩
  obtain ⟨Pv, h0, hs', hd⟩ := k D ⟨hD⟩
  exact lc_range (lo := 0) (g := gBlk X scope tg) (te := eBlk X scope elt) (tt := tYes) Pv h0 (fun i H hx hp => by
    have := hs' i _ hx hp
    rw [Int.zero_add]
    exact this) hd
end
end L2
namespace L2
open PySem PySem.Spec PyProof.Rows
/-! ### in, abs by own methods; constants of a class; keywords -/
section
variable {X : Cx} {P : Program} {w : World} {K : PySem.W.Frag} {mg : Str → Option Value} {base : Heap} {A : Around} {σ : St} {H : Hp} {Q : VK} {a C dx : Addr} {fs : List (Str × V)} {k j : Nat} {sp : Sp} {y : V}
/-- y in x, x of an own class -/
theorem ow_inO (cm : CalM P w K mg base k C "__contains__" sp) (hr : Room j A) (hk : k ≤ j) (hX : XIs X P w K mg base A) (ea : H a = some (.ins C dx fs))
    (h : sp [.ref a, y] H (fun v H' => ∃ b, v = .bl b ∧ Q (.bl b) H') fun cls d H' => XW X cls d σ H') : OpW X σ (compareOp .In) y (.ref a) H Q := by
  obtain ⟨rfl, rfl, rfl, rfl, rfl, rfl⟩ := hX
  refine ⟨fun pins s v u I rx ry => ?_⟩
  cases (show u = Value.ref a from ry)
  obtain ⟨_, _, J⟩ := ins_inst I ea
  obtain ⟨mm, hF⟩ := I.fr
  obtain ⟨f, fd, ps, dvs, ds, sp0, F, hm, hb, hd, im⟩ := cm.ex
  refine PySem.W.in_K hF I.ok.mod.kin J hm.at_ hm.fn ?_
  refine thn (zrun (us := [.ref a, v]) (vs := [.ref a, y]) F (hr.mono hk) hb hd I (.cons rfl (.cons rx .nil)) (im _ _ _ _ h)) fun r s' z => ?_
  obtain ⟨z', H', I', rz, b, ez, qz⟩ := z
  subst ez
  cases rz
  exact wpAny_truthy_bool ⟨.bl b, H', I', rfl, qz⟩
/-- a def runs within a built-in function, raising nothing -/
theorem zrun1 {pins : List (Addr × Obj)} {s : Shared} {us : List Value} {vs : List V} {E' : Value → Shared → Prop} (cm : CalM X.prog X.w X.K X.mg X.base k C y0 sp) (hr : Room j X.A) (hk : k + 1 ≤ j) (I : Inv X pins σ H s) (r : Vals vs us) (h : sp vs H Q fun _ _ _ => False) :
    ∃ f, PySem.W.findIn X.K (.ref C) y0 = some (some (.ref f)) ∧ PySem.W.isFn X.K (.ref f) = true ∧ wpAny (model X.prog X.w) X.A.in1 (call (.ref f) us) (EP X pins σ Q) E' s := by
  obtain ⟨f, fd, ps, dvs, ds, sp0, F, hm, hb, hd, im⟩ := cm.ex
  refine ⟨f, hm.at_, hm.fn, ?_⟩
  have rr : Vals (vs ++ dvs) (us ++ ds) := r.append hd
  have hl : (us ++ ds).length = ps.length := by rw [← rr.length]; exact F.len _ _ _ _ (im _ _ _ _ h)
  refine wpAny_call (codeAny_mono (F.run X.A.in1 X.stack s H ⟨us, []⟩ (us ++ ds) (vs ++ dvs) Q _ (hr.mono hk).in1 I.env0.in1 (hb s us I.kIn hl) rr (im _ _ _ _ h)) fun r s' hq => ?_)
  cases r with
  | error e => exact (cxn_no (fun _ _ _ z => z) hq).elim
  | ok fl =>
    cases fl with
    | ret u => exact I.after hq
    | next => exact False.elim hq
    | brk => exact False.elim hq
    | cont => exact False.elim hq
/-- abs(x), x of an own class -/
theorem cw_absO (cm : CalM P w K mg base k C "__abs__" sp) (hr : Room j A) (hk : k + 1 ≤ j) (hX : XIs X P w K mg base A) (ea : H a = some (.ins C dx fs)) (h : sp [.ref a] H Q fun _ _ _ => False) : CallW X (.builtin "abs") [.ref a] H Q := by
  obtain ⟨rfl, rfl, rfl, rfl, rfl, rfl⟩ := hX
  refine ⟨fun pins s σ us I r => ?_⟩
  cases r with
  | cons ru rn =>
    cases rn
    cases ru
    obtain ⟨_, _, J⟩ := ins_inst I ea
    obtain ⟨f, h1, h2, h3⟩ := zrun1 (E' := X.xe) (σ := σ) cm hr hk I (.cons (show RelV (.ref a) (.ref a) from rfl) .nil) h
    refine Calls.call_function_entry kind_abs plain_abs entry_abs (args_abs _) ?_
    unfold Builtin.«abs»
    refine wpAny_bind (m := oneArg "abs" _) (wpAny_pure ?_)
    refine wpAny_bind (m := callSpecial? (.ref a) (Str.ofString "__abs__")) (PySem.W.special_fn I.kIn J h1 (beq_iff_eq.mp h2) (wpAny_mono h3 (fun u s' z => ?_) fun _ _ x => x))
    exact wpAny_pure ⟨_, rfl, z⟩
end
end L2
namespace L2
open PySem PySem.Spec PyProof.Rows
section
variable {X : Cx} {e a b c : Expr} {es : List Expr} {σ : St} {H : Hp} {Q : VK} {pos p kpos : Pos} {kws : List Keyword} {nm : Option Str}
/-- the values of the keywords -/
structure ZK (X : Cx) (kws : List Keyword) (σ : St) (H : Hp) (Q : List V → Hp → Prop) : Prop where
  run : ∀ pos pins s, Inv X pins σ H s → wpAny (model X.prog X.w) X.A (evalAll ((backToKw pos (keywordEach kws X.env)).map (·.2))) (AP X pins σ Q) X.xe s
theorem pk_wk : PK X kws (ZK X kws) := ⟨fun pos pins s σ H Q I h => h.run pos pins s I⟩
theorem zk_nil {Q : List V → Hp → Prop} (q : Q [] H) : ZK X [] σ H Q := ⟨fun pos pins s I => pk_nil.run pos pins s σ H Q I q⟩
theorem zk_cons {Q : List V → Hp → Prop} (h : ZE X e σ H fun x H1 => ZK X kws σ H1 fun xs H2 => Q (x :: xs) H2) : ZK X (⟨nm, e, kpos⟩ :: kws) σ H Q := ⟨fun pos pins s I => (pk_cons pe_we pk_wk).run pos pins s σ H Q I h⟩
/-- a class made with keywords named ks behind n values: g puts them in the order of __init__ -/
structure CalCK (P : Program) (w : World) (K : PySem.W.Frag) (mg : Str → Option Value) (base : Heap) (k : Nat) (x : Str) (C : Addr) (n : Nat) (ks : List Str) (sp : Sp) : Prop where
  ex : ∃ (f : Addr) (fd : FuncData) (ps : List Str) (sp0 : Sp) (g : List Value → List Value → List Value) (gV : List V → List V → List V), L2.Mk K C f ∧ FnOk P w K mg base (L2N.CX P w) k f fd ps sp0 ∧ mg x = some (.ref C) ∧ KBn K fd ps (n + 1) ks g gV ∧ ∀ r vs zs H Q E, sp (r :: (vs ++ zs)) H Q E → vs.length = n → zs.length = ks.length → sp0 (gV (r :: vs) zs) H Q E
theorem mrunK {k n : Nat} {C f : Addr} {fd : FuncData} {ps ks : List Str} {sp : Sp} {g : List Value → List Value → List Value} {gV : List V → List V → List V} {pins : List (Addr × Obj)} {s : Shared} {us ws : List Value} {vs zs : List V} (M : L2.Mk X.K C f) (F : FnOk X.prog X.w X.K X.mg X.base (L2N.CX X.prog X.w) k f fd ps sp) (hr : Room (k + 1) X.A) (hb : KBn X.K fd ps (n + 1) ks g gV)
    (I : Inv X pins σ H s) (r : Vals vs us) (rz : Vals zs ws) (l1 : vs.length = n) (l2 : zs.length = ks.length) (h : ∀ a dx, NoA H a → NoA H dx → dx ≠ a → sp (gV (.ref a :: vs) zs) (upd (upd H dx (.own a)) a (.ins C dx [])) (fun v H2 => v = .non ∧ Q (.ref a) H2) (fun cls d H' => XW X cls d σ H')) : wpAny (model X.prog X.w) X.A (call (.ref C) us (ks.zip ws)) (EP X pins σ Q) X.xe s := by
  have f1 : NoA H (s.heap.objs.size + 1) := ⟨I.hok.fresh (Nat.le_succ _)⟩
  have f2 : NoA H s.heap.objs.size := ⟨I.hok.fresh (Nat.le_refl _)⟩
  have want := h _ _ f1 f2 (Nat.ne_of_lt (Nat.lt_succ_self _))
  have made := Inv.made (C := C) I
  have r1 : Vals (V.ref (s.heap.objs.size + 1) :: vs) (Value.ref (s.heap.objs.size + 1) :: us) := .cons rfl r
  have r2 := hb.rel r1 rz
  have n1 : (Value.ref (s.heap.objs.size + 1) :: us).length = n + 1 := by rw [List.length_cons, ← r.length, l1]
  have body := F.run _ X.stack _ _ ⟨Value.ref (s.heap.objs.size + 1) :: us, ks.zip ws⟩ (g (Value.ref (s.heap.objs.size + 1) :: us) ws) _ _ _ (hr.make C us (ks.zip ws)) (made.env0.make C us (ks.zip ws)) (hb.to _ (Value.ref (s.heap.objs.size + 1) :: us) ws made.kIn n1 (rz.length.symm.trans l2)) r2 want
  refine wpAny_call (make_map (f := f) I.kIn M.makes M.init (beq_iff_eq.mp M.fn) (codeAny_mono body fun r s' got => ?_))
  cases r with
  | error ev => exact takes_xw ev s' (L2N.XE.of_call made (fun cls d H' w => w) got)
  | ok fl =>
    cases fl with
    | ret u =>
      obtain ⟨v, H', J, rv, ev, q3⟩ := made.after got
      subst ev
      exact ⟨rv, V.ref (s.heap.objs.size + 1), H', J, rfl, q3⟩
    | next => exact got.elim
    | brk => exact got.elim
    | cont => exact got.elim
theorem s_makeK {P : Program} {w : World} {K : PySem.W.Frag} {mg : Str → Option Value} {base : Heap} {A : Around} {x : Str} {C : Addr} {k j n : Nat} {ks : List Str} {sp : Sp} (c : CalCK P w K mg base k x C n ks sp) (hr : Room j A) (hk : k + 1 ≤ j) (hX : XIs X P w K mg base A)
    (h : ZA X (e :: es) σ H fun vs H1 => ZK X kws σ H1 fun zs H2 => vs.length = n ∧ zs.length = ks.length ∧ ∀ a dx, NoA H2 a → NoA H2 dx → dx ≠ a → sp (.ref a :: (vs ++ zs)) (upd (upd H2 dx (.own a)) a (.ins C dx [])) (fun v H3 => v = .non ∧ Q (.ref a) H3) (fun cls d H' => XW X cls d σ H')) (hg : Gl X x)
    (hall : (backToKw pos (keywordEach kws X.env)).all (·.1.isSome) = true) (hks : (backToKw pos (keywordEach kws X.env)).filterMap (·.1) = ks) (hdb : (x == ("__debug__" : Str)) = false)
    (he : starEach (e :: es) X.env = (false, eval e X.env) :: starEach es X.env) (hpl : ((backTo pos (starEach (e :: es) X.env)).any (·.1) || (backToKw pos (keywordEach kws X.env)).any (·.1.isNone)) = false) : ZE X (.Call (.Name x p) (e :: es) kws pos) σ H Q := by
  obtain ⟨rfl, rfl, rfl, rfl, rfl, rfl⟩ := hX
  obtain ⟨f, fd, ps, sp0, g, gV, M, F, gm, hb, im⟩ := c.ex
  refine ⟨fun pins s I => ?_⟩
  refine wpAny_Call_Name_kw (ld_glob I hg gm ?_ hdb)
  refine PySem.W.callWith_KW (h₀ := X.base) I.ok.mod.kin M.kp hall (thn (h.run pos pins s I) fun us s1 ⟨vs, H1, I1, r, q⟩ => ?_) hpl he
  refine thn (q.run pos pins s1 I1) fun ws s2 ⟨zs, H2, I2, rz, l1, l2, q2⟩ => ⟨I2.kIn, ?_⟩
  rw [hks]
  exact mrunK M F (hr.mono hk) hb I2 r rz l1 l2 fun a dx n1 n2 ne => im _ _ _ _ _ _ (q2 a dx n1 n2 ne) l1 l2
/-- a constant of a class, read off the class -/
theorem aw_cval {C : Addr} {mc : Value} {f : Str} {v : V} {u : Value} (r : ClX.CRead X.K C mc) (k : ClX.CVal X.K C mc f v u) (q : Q v H) : AtW X f (.ref C) H Q := by
  refine ⟨fun pins s σ w I rx => ?_⟩
  obtain rfl : w = Value.ref C := rx
  exact ClX.getcval_ok I r k fun s2 I2 => ⟨v, H, I2, k.rel, q⟩
end
end L2

/-! == and != with an instance of an own class on either side. -/
namespace L2
open PySem PySem.Spec PyProof.Rows
theorem looks_bind {M : Model} {h : Heap} {α β : Type} {m : Sem α} {f : α → Sem β} {a : α} {b : β} (h1 : PySem.W.Looks M h m a) (h2 : PySem.W.Looks M h (f a) b) : PySem.W.Looks M h (m >>= f) b :=
  fun A Q E s k q => wpAny_bind (h1 A _ E s k (h2 A Q E s k q))
theorem inst_own {M : Model} {h : Heap} {K : PySem.W.Frag} {x C : Addr} {ox : Obj} {od : Option Obj} {b : Value} {r : Bool} (kin : K.In h) (J : PySem.W.InstAt h x ox C od) (hs : PySem.W.subIn K (.ref C) b = some r) : PySem.W.Looks M h (PySem.isInstance (.ref x) b) r := by
  unfold PySem.isInstance
  exact looks_bind J.type (PySem.W.looks_subIn kin hs)
/-- the rich comparison by its two tries -/
theorem rich_of {M : Model} {A : Around} {E : Value → Shared → Prop} {s : Shared} {a b ta tb : Value} {op : CmpOp} {Q : Value → Shared → Prop} (hu : A.units < cLine) (ho : oneThing? op a b = none) (hta : PySem.W.Looks M s.heap (typeOf a) ta) (htb : PySem.W.Looks M s.heap (typeOf b) tb) (hsub : ta = tb ∨ PySem.W.Looks M s.heap (isSubtype tb ta) false)
    (h : wpAny M A (tryCompare a (cmpInfo op).2.1 b) (fun o s1 => match o with | some v => Q v s1 | none => wpAny M A (tryCompare b (cmpInfo op).2.2 a) (fun o s2 => ∃ v, o = some v ∧ Q v s2) E s1) E s) : wpAny M A (richCompare op a b) Q E s := by
  unfold richCompare
  refine wpAny_holding (wpAny_bind (wpAny_cRoomFor hu ?_))
  rw [ho]
  refine wpAny_bind (hta A _ E s (fun _ _ z => z) ?_)
  refine wpAny_bind (htb A _ E s (fun _ _ z => z) ?_)
  have fin : ∀ (m : Sem Value) (f : Option Value → Sem Value) (rest : Sem Value), wpAny M A m Q E s → wpAny M A m Q E s := fun m f rest h => h
  have step : ∀ {o : Option Value} {s1 : Shared} {rest : Sem Value}, (match o with | some v => Q v s1 | none => wpAny M A (tryCompare b (cmpInfo op).2.2 a) (fun o s2 => ∃ v, o = some v ∧ Q v s2) E s1) →
      wpAny M A (match o with | some v => pure v | x => (if (!false) = true then (tryCompare b (cmpInfo op).2.2 a >>= fun o => match o with | some v => pure v | x => rest) else rest)) Q E s1 := by
    intro o s1 rest q
    cases o with
    | some v => exact wpAny_pure q
    | none =>
      refine wpAny_bind (wpAny_mono q (fun o s2 q => ?_) fun _ _ z => z)
      obtain ⟨v, rfl, q⟩ := q
      exact wpAny_pure q
  dsimp only
  split
  · rename_i hne
    refine wpAny_bind ?_
    rcases hsub with rfl | hsub
    · simp at hne
    · refine hsub A _ E s (fun _ _ z => z) ?_
      rw [if_neg Bool.false_ne_true]
      exact wpAny_bind (wpAny_mono h (fun o s1 q => step q) fun _ _ z => z)
  · refine wpAny_bind (wpAny_pure ?_)
    rw [if_neg Bool.false_ne_true]
    exact wpAny_bind (wpAny_mono h (fun o s1 q => step q) fun _ _ z => z)

theorem ifBound_slotO {M : Model} {A : Around} {E : Value → Shared → Prop} {s : Shared} {K : PySem.W.Frag} {x C : Addr} {ox : Obj} {od : Option Obj} {name : Str} {id : String} {args : List Value} {Q : Option Value → Shared → Prop} (kin : K.In s.heap) (J : PySem.W.InstAt s.heap x ox C od) (hf : PySem.W.findIn K (.ref C) name = some (some (.builtin id))) (hb : ∀ self, bindSpecial (.builtin id) self = pure (.builtin id, [self]))
    (h : wpAny M A (call (.builtin id) (.ref x :: args)) (fun v => Q (some v)) E s) : wpAny M A (callSpecialIfBound? (.ref x) name args) Q E s := by
  have fin : wpAny M A (do let r ← call (.builtin id) ([.ref x] ++ args); pure (some r)) Q E s := wpAny_bind (wpAny_mono h (fun v s1 q => wpAny_pure q) fun _ _ z => z)
  unfold callSpecialIfBound? bindSpecialIfBound? specialOf
  refine wpAny_holding (wpAny_bind (wpAny_bind (wpAny_bind (J.type A _ E s (fun _ _ z => z) (PySem.W.looks_findIn kin hf A _ E s (fun _ _ z => z) ?_)))))
  dsimp only
  rw [hb]
  refine wpAny_bind (wpAny_askSetting ?_)
  dsimp only
  split
  · exact wpAny_bind (wpAny_pure (wpAny_pure fin))
  · exact wpAny_tryCatch (wpAny_bind (wpAny_pure (wpAny_pure fin)))
theorem call_slotB {prog : Program} {w : World} {A : Around} {E : Value → Shared → Prop} {s : Shared} {id : String} {b : Builtin} {args : List Value} {Q : Value → Shared → Prop} (hp : plainId id = true) (he : entryFor table id = some b) (hc : ∀ Q' E', Q' () s → wpAny (model prog w) A.in1 (checkBuiltinCall id ⟨args, []⟩) Q' E' s)
    (h : wpAny (model prog w) A.in1 (b ⟨args, []⟩) (fun fin s' => ∃ v, fin = .done (.ret v) ∧ Q v s') E s) : wpAny (model prog w) A (call (.builtin id) args) Q E s := by
  refine wpAny_call (codeAny_call_builtin hp he (hc _ _ (wpAny_mono h (fun fin s' q => ?_) fun _ _ z => z)))
  obtain ⟨v, rfl, q⟩ := q
  exact q
/-- x != v by an own __eq__ that gives a bool -/
theorem try_neO {prog : Program} {w : World} {A : Around} {E : Value → Shared → Prop} {s : Shared} {K : PySem.W.Frag} {x C f : Addr} {ox : Obj} {od : Option Obj} {v : Value} {Q : Option Value → Shared → Prop} (hu : A.in1.units < cLine) (kin : K.In s.heap) (J : PySem.W.InstAt s.heap x ox C od) (hn : PySem.W.findIn K (.ref C) "__ne__" = some (some (.builtin "object.__ne__"))) (hm : PySem.W.mroIn K C (.type "object") = some true)
    (hf : PySem.W.findIn K (.ref C) "__eq__" = some (some (.ref f))) (hF : PySem.W.isFn K (.ref f) = true) (h : wpAny (model prog w) A.in1 (call (.ref f) [.ref x, v]) (fun r s' => ∃ b, r = .bool b ∧ Q (some (.bool (!b))) s') E s) : wpAny (model prog w) A (tryCompare (.ref x) "__ne__" v) Q E s := by
  unfold tryCompare
  refine wpAny_bind (ifBound_slotO (id := "object.__ne__") kin J hn PySem.F.slot_object_ne.bind ?_)
  refine call_slotB (by decide +kernel) PySem.F.entry_object_ne (fun Q' E' q => PySem.W.check_slot (owner := "object") (n := "__ne__") (by decide +kernel) (by decide +kernel) (inst_own kin J hm) (PySem.F.args_object_ne_2 _ _) q) ?_
  unfold Builtin.«object.__ne__»
  refine wpAny_bind (wpAny_pure ?_)
  dsimp only
  refine wpAny_bind (wpAny_cRoomFor hu (wpAny_bind (PySem.W.ifBound_K kin J hf hF (wpAny_mono h (fun r s' q => ?_) fun _ _ z => z))))
  obtain ⟨b, rfl, q⟩ := q
  exact wpAny_bind (wpAny_truthy_bool (wpAny_pure ⟨_, rfl, wpAny_pure q⟩))

/-! a value of a built-in type beside an instance -/
theorem sub_type {K : PySem.W.Frag} {C : Addr} {T : String} (h : T = "int" ∨ T = "bool" ∨ T = "str" ∨ T = "list" ∨ T = "tuple" ∨ T = "NoneType") : PySem.W.subIn K (.type T) (.ref C) = some false := by
  rcases h with rfl | rfl | rfl | rfl | rfl | rfl <;> rfl
/-- what the written part says of an own class beside the built-in types -/
structure NotB (K : PySem.W.Frag) (C : Addr) : Prop where
  no : ∀ T, (T = "int" ∨ T = "bool" ∨ T = "str" ∨ T = "list" ∨ T = "tuple" ∨ T = "NoneType") → PySem.W.mroIn K C (.type T) = some false
theorem NotB.of {K : PySem.W.Frag} {C : Addr} (h1 : PySem.W.mroIn K C (.type "int") = some false) (h2 : PySem.W.mroIn K C (.type "bool") = some false) (h3 : PySem.W.mroIn K C (.type "str") = some false) (h4 : PySem.W.mroIn K C (.type "list") = some false) (h5 : PySem.W.mroIn K C (.type "tuple") = some false) (h6 : PySem.W.mroIn K C (.type "NoneType") = some false) : NotB K C :=
  ⟨fun T h => by rcases h with rfl | rfl | rfl | rfl | rfl | rfl <;> assumption⟩
theorem looks_is {M : Model} {s : Shared} {v : Value} {T : String} (h : s.TypeIs v T) : PySem.W.Looks M s.heap (typeOf v) (.type T) := by
  unfold Shared.TypeIs at h
  split at h
  · obtain ⟨o, h1, h2⟩ := h
    rename_i a
    have : PySem.W.Looks M s.heap (typeOf (.ref a)) o.cls := by
      unfold typeOf
      exact looks_bind (PySem.W.Looks.ld h1) PySem.W.Looks.now
    rwa [h2] at this
  · exact PySem.W.Looks.of_pure h
/-- T's == declines an instance of an own class -/
theorem eq_dec {prog : Program} {w : World} {A : Around} {E : Value → Shared → Prop} {s : Shared} {K : PySem.W.Frag} {y C : Addr} {oy : Obj} {od : Option Obj} {X : Cx} {pins : List (Addr × Obj)} {σ : St} {H : Hp} {x : V} {v : Value} {T : String} {Q : Option Value → Shared → Prop} (I : Inv X pins σ H s) (r : RelV x v) (b : TyB X.K H x T) (hT : T = "int" ∨ T = "bool" ∨ T = "str" ∨ T = "list" ∨ T = "tuple" ∨ T = "NoneType")
    (kin : K.In s.heap) (J : PySem.W.InstAt s.heap y oy C od) (N : NotB K C) (hd : ∀ p, oy.data ≠ .prim p) (q : ∀ s', Inv X pins σ H s' → Q none s') : wpAny (model prog w) A (tryCompare v "__eq__" (.ref y)) Q E s := by
  have ti := b.is I r
  have key : ∀ {id : String} {B : Builtin}, Slot T "__eq__" id → entryFor table id = some B → argsOk id ⟨[v, .ref y], []⟩ → wpAny (model prog w) A.in1 (B ⟨[v, .ref y], []⟩) (fun fin s' => fin = .done (.ret .notImplemented) ∧ Inv X pins σ H s') E s → wpAny (model prog w) A (tryCompare v "__eq__" (.ref y)) Q E s := fun sl en ao h =>
    wpAny_tryCompare_declines ti sl (call_slotB sl.plain en (fun Q' E' q => sl.check _ _ _ _ _ _ _ _ ti ao q) (wpAny_mono h (fun fin s' ⟨e, I'⟩ => ⟨_, e, rfl, q s' I'⟩) fun _ _ z => z))
  cases b with
  | non =>
    obtain rfl : v = .none := r
    refine key PySem.F.slot_NoneType_eq PySem.F.entry_NoneType_eq (PySem.F.args_NoneType_eq_2 _ _) ?_
    unfold Builtin.«NoneType.__eq__»
    exact wpAny_bind (wpAny_pure (wpAny_pure ⟨rfl, I⟩))
  | bl c =>
    obtain rfl : v = .bool c := r
    refine key PySem.F.slot_bool_eq PySem.F.entry_int_eq (PySem.F.args_int_eq_2 _ _) ?_
    show wpAny _ _ (Builtin.Int.intBinary "__eq__" (fun x y => ret (.bool (x == y))) false ⟨[.bool c, .ref y], []⟩) _ _ _
    unfold Builtin.Int.intBinary
    refine wpAny_bind (wpAny_pure (wpAny_bind (wpAny_bind (wpAny_pure (wpAny_pure (wpAny_bind (wpAny_bind (wpAny_load J.at_ ?_))))))))
    split
    · rename_i h; exact absurd h (hd _)
    · exact wpAny_pure (wpAny_bind (wpAny_rule (wpAny_pure ⟨rfl, I⟩)))
  | int c =>
    obtain ⟨t, rfl⟩ := r
    refine key PySem.F.slot_int_eq PySem.F.entry_int_eq (PySem.F.args_int_eq_2 _ _) ?_
    show wpAny _ _ (Builtin.Int.intBinary "__eq__" (fun x y => ret (.bool (x == y))) false ⟨[.int c t, .ref y], []⟩) _ _ _
    unfold Builtin.Int.intBinary
    refine wpAny_bind (wpAny_pure (wpAny_bind (wpAny_bind (wpAny_pure (wpAny_pure (wpAny_bind (wpAny_bind (wpAny_load J.at_ ?_))))))))
    split
    · rename_i h; exact absurd h (hd _)
    · exact wpAny_pure (wpAny_bind (wpAny_rule (wpAny_pure ⟨rfl, I⟩)))
  | str c =>
    obtain ⟨t, rfl⟩ := r
    refine key PySem.F.slot_str_eq PySem.F.entry_str_eq (PySem.F.args_str_eq_2 _ _) ?_
    show wpAny _ _ (Builtin.Str.strCompare "__eq__" (fun x y => x == y) ⟨[.str c t, .ref y], []⟩) _ _ _
    unfold Builtin.Str.strCompare
    refine wpAny_bind (wpAny_bind (wpAny_pure (wpAny_bind (wpAny_bind (wpAny_pure (wpAny_pure (wpAny_pure (wpAny_bind (wpAny_bind (wpAny_load J.at_ ?_))))))))))
    split
    · rename_i h; exact absurd h (hd _)
    · exact wpAny_pure (wpAny_bind (wpAny_rule (wpAny_pure ⟨rfl, I⟩)))
  | byt c => simp at hT
  | lst h =>
    obtain rfl : v = .ref _ := r
    refine key PySem.F.slot_list_eq PySem.F.entry_list_eq (PySem.F.args_list_eq_2 _ _) ?_
    unfold Builtin.«list.__eq__»
    refine wpAny_bind (m := slotArgs "__eq__" 1 _) (wpAny_pure (wpAny_bind (m := PySem.isInstance _ _) (inst_own kin J (N.no "list" hT) _ _ _ _ (fun _ _ z => z) ?_)))
    exact wpAny_pure ⟨rfl, I⟩
  | tup h =>
    obtain rfl : v = .ref _ := r
    refine key PySem.F.slot_tuple_eq PySem.F.entry_tuple_eq (PySem.F.args_tuple_eq_2 _ _) ?_
    unfold Builtin.«tuple.__eq__»
    refine wpAny_bind (m := slotArgs "__eq__" 1 _) (wpAny_pure (wpAny_bind (m := PySem.isInstance _ _) (inst_own kin J (N.no "tuple" hT) _ _ _ _ (fun _ _ z => z) ?_)))
    exact wpAny_pure ⟨rfl, I⟩
  | dK h => simp at hT

section
variable {X : Cx} {P : Program} {w : World} {K : PySem.W.Frag} {mg : Str → Option Value} {base : Heap} {A : Around} {σ : St} {H : Hp} {Q : VK} {a b C C' dx dy : Addr} {fs gs : List (Str × V)} {k j : Nat} {sp : Sp} {y : V} {T : String}
abbrev BT6 (T : String) : Prop := T = "int" ∨ T = "bool" ∨ T = "str" ∨ T = "list" ∨ T = "tuple" ∨ T = "NoneType"
theorem ins_data {pins : List (Addr × Obj)} {s : Shared} (I : Inv X pins σ H s) (ea : H a = some (.ins C dx fs)) : ∃ o od, PySem.W.InstAt s.heap a o C od ∧ ∀ p, o.data ≠ .prim p := by
  obtain ⟨mA, O, _⟩ := ins_get I.hok ea
  obtain ⟨od, J, _⟩ := O.look
  exact ⟨_, _, J, fun p z => by cases z⟩
/-- x == y, x of an own class, y of a built-in type -/
theorem ow_eqB (cm : CalM P w K mg base k C "__eq__" sp) (hT : BT6 T) (hr : Room j A) (hk : k ≤ j) (hX : XIs X P w K mg base A) (ea : H a = some (.ins C dx fs)) (b : TyB K H y T)
    (h : sp [.ref a, y] H Q fun cls d H' => XW X cls d σ H') : OpW X σ (compareOp .Eq) (.ref a) y H Q := by
  obtain ⟨rfl, rfl, rfl, rfl, rfl, rfl⟩ := hX
  refine ⟨fun pins s v u I rx ry => ?_⟩
  cases (show v = Value.ref a from rx)
  obtain ⟨_, _, J⟩ := ins_inst I ea
  obtain ⟨mm, hF⟩ := I.fr
  obtain ⟨f, h1, h2, h3⟩ := own_run (a := a) (y := y) (v := u) cm hr hk I ry h
  exact PySem.W.cmp_ofEq (PySem.W.cmp_K (op := .Eq) (tb := .type T) hr.units0 hF I.ok.mod.kin J (looks_is (b.is I ry)) (by unfold PySem.W.notFirst; rw [sub_type hT]; simp) h1 h2 h3)
/-- y == x, x of an own class, y of a built-in type -/
theorem ow_Beq (cm : CalM P w K mg base k C "__eq__" sp) (N : NotB K C) (hT : BT6 T) (hr : Room j A) (hk : k ≤ j) (hX : XIs X P w K mg base A) (ea : H a = some (.ins C dx fs)) (b : TyB K H y T)
    (h : sp [.ref a, y] H Q fun cls d H' => XW X cls d σ H') : OpW X σ (compareOp .Eq) y (.ref a) H Q := by
  obtain ⟨rfl, rfl, rfl, rfl, rfl, rfl⟩ := hX
  refine ⟨fun pins s v u I rx ry => ?_⟩
  cases (show u = Value.ref a from ry)
  obtain ⟨_, _, J, hd⟩ := ins_data I ea
  have ti := b.is I rx
  refine PySem.W.cmp_ofEq (rich_of hr.units0 (ti.oneThing_none _ _) (looks_is ti) J.type (.inr (PySem.W.looks_subIn I.kIn (N.no T hT))) (eq_dec I rx b hT I.kIn J N hd fun s' I' => ?_))
  obtain ⟨_, _, J'⟩ := ins_inst I' ea
  obtain ⟨f, h1, h2, h3⟩ := own_run (a := a) (y := y) (v := v) cm hr hk I' rx h
  show wpAny _ _ (tryCompare (.ref a) "__eq__" v) _ _ _
  unfold tryCompare
  refine wpAny_bind (PySem.W.ifBound_K I'.kIn J' h1 h2 (wpAny_mono h3 (fun r s2 q => ?_) fun _ _ z => z))
  cases r <;> first | exact q.elim | exact wpAny_pure ⟨_, rfl, q⟩
/-- x != y, x of an own class -/
theorem ow_neO (cm : CalM P w K mg base k C "__eq__" sp) (hn : PySem.W.findIn K (.ref C) "__ne__" = some (some (.builtin "object.__ne__"))) (hm : PySem.W.mroIn K C (.type "object") = some true) (hr : Room j A) (hk : k + 1 ≤ j) (hX : XIs X P w K mg base A) (ea : H a = some (.ins C dx fs))
    (ht : (∃ T, BT6 T ∧ TyB K H y T) ∨ (∃ b C' dy gs, y = .ref b ∧ H b = some (.ins C' dy gs) ∧ PySem.W.notFirst K C (.ref C') = true))
    (h : sp [.ref a, y] H (fun v H' => ∃ c, v = .bl c ∧ Q (.bl (!c)) H') fun _ _ _ => False) : OpW X σ (compareOp .NotEq) (.ref a) y H Q := by
  obtain ⟨rfl, rfl, rfl, rfl, rfl, rfl⟩ := hX
  refine ⟨fun pins s v u I rx ry => ?_⟩
  cases (show v = Value.ref a from rx)
  obtain ⟨_, _, J⟩ := ins_inst I ea
  obtain ⟨f, h1, h2, h3⟩ := zrun1 (E' := X.xe) (σ := σ) cm hr hk I (.cons (show RelV (.ref a) (.ref a) from rfl) (.cons ry .nil)) h
  obtain ⟨tb, htb, hsub⟩ : ∃ tb, PySem.W.Looks (model X.prog X.w) s.heap (typeOf u) tb ∧ (Value.ref C = tb ∨ PySem.W.Looks (model X.prog X.w) s.heap (isSubtype tb (.ref C)) false) := by
    rcases ht with ⟨T, hT, b⟩ | ⟨b, C', dy, gs, rfl, eb, nf⟩
    · exact ⟨_, looks_is (b.is I ry), .inr (PySem.W.looks_subIn I.kIn (sub_type hT))⟩
    · cases (show u = Value.ref b from ry)
      obtain ⟨_, _, J'⟩ := ins_inst I eb
      refine ⟨_, J'.type, ?_⟩
      unfold PySem.W.notFirst at nf
      rw [Bool.or_eq_true] at nf
      rcases nf with nf | nf
      · exact .inl (by simpa using (show (C' = C) by simpa using nf.symm).symm)
      · exact .inr (PySem.W.looks_subIn I.kIn (by simpa using nf))
  refine PySem.W.cmp_ofNotEq (rich_of hr.units0 (oneThing_ref _ _ _) J.type htb hsub (try_neO (by have := hr.un; show X.A.units + 1 < cLine; omega) I.kIn J hn hm h1 h2 (wpAny_mono h3 (fun r s2 q => ?_) fun _ _ z => z)))
  obtain ⟨z, H', I', rz, c, rfl, q⟩ := q
  exact ⟨c, rz, .bl (!c), H', I', rfl, q⟩
end
end L2

/-! Classmethods; a class held by a local name. -/
namespace L2
open PySem PySem.Spec PyProof.Rows
/-- a classmethod of an own class, with its promise -/
structure CalS (P : Program) (w : World) (K : PySem.W.Frag) (mg : Str → Option Value) (base : Heap) (k : Nat) (C : Addr) (m : Str) (sp : Sp) : Prop where
  ex : ∃ (mc : Value) (p g : Addr) (fd : FuncData) (ps : List Str), ClX.CRead K C mc ∧ ClX.CMet K C mc m p g ∧ FnOk P w K mg base (L2N.CX P w) k g fd ps sp ∧ Binds K fd ps []
section
variable {X : Cx} {P : Program} {w : World} {K : PySem.W.Frag} {mg : Str → Option Value} {base : Heap} {A : Around} {σ : St} {H : Hp} {Q : VK} {C : Addr} {m : Str} {k j : Nat} {sp : Sp} {e o : Expr} {es : List Expr} {pos apos p : Pos}
theorem s_cmeth {pl : Sem Bool} (c : CalS P w K mg base k C m sp) (hr : Room j A) (hk : k ≤ j) (hX : XIs X P w K mg base A) (h : ZE X o σ H fun x H1 => x = .ref C ∧ ZA X (e :: es) σ H1 fun vs H2 => sp (.ref C :: vs) H2 Q fun cls d H' => XW X cls d σ H')
    (hst : starEach (e :: es) X.env = (false, eval e X.env) :: starEach es X.env) (hpl : (backTo pos (starEach es X.env)).any (·.1) = false)
    (ht : eval (.Call (.Attribute o m apos) (e :: es) [] pos) X.env = (do
      let ov ← eval o X.env
      standAt apos.atName
      let (f, first) ← holding [ov] (getMethod ov m pl)
      callWith pos f first (backTo pos (starEach (e :: es) X.env)) (backToKw pos (keywordEach [] X.env)))) : ZE X (.Call (.Attribute o m apos) (e :: es) [] pos) σ H Q := by
  obtain ⟨rfl, rfl, rfl, rfl, rfl, rfl⟩ := hX
  obtain ⟨mc, pm, g, fd, ps, rd, cm, F, hb⟩ := c.ex
  refine ⟨fun pins s I => ?_⟩
  refine PySem.W.methodCall_KW (pl := pl) (thn (h.run pins s I) fun u s1 ⟨x, H1, I1, rx, ex, q⟩ => ?_) ht
  subst ex
  obtain rfl : u = Value.ref C := rx
  refine ClX.getmethcm_ok I1 rd cm fun s2 I2 => ?_
  refine ClX.callwith_cm I2 (ClX.base_none I1 (Nat.le_refl _)) cm.fi (thn (q.run pos _ s2 I2) fun us s3 ⟨vs, H2, I3, r, q2⟩ => ⟨⟨ClX.pin_at I3, I3.kIn⟩, ?_⟩) hst hpl
  have rr : Vals (V.ref C :: vs) (Value.ref C :: us) := .cons rfl r
  have hl : (Value.ref C :: us).length = ps.length := by rw [← rr.length]; exact F.len _ _ _ _ q2
  have I3' := ClX.unpin I3
  refine wpAny_call (ks_codeAny_call_bound (ClX.pin_at I3) ?_)
  refine codeAny_mono (F.run X.A X.stack s3 H2 ⟨Value.ref C :: us, []⟩ (Value.ref C :: us) (V.ref C :: vs) Q _ (hr.mono hk) I3'.env0 (by have := hb s3 (Value.ref C :: us) I3'.kIn (by rw [List.append_nil]; exact hl); rwa [List.append_nil] at this) rr q2) fun r s' hq => ?_
  cases r with
  | error e => exact takes_xw e s' (L2N.XE.of_call I3' (fun cls d H' w => w) hq)
  | ok fl =>
    cases fl with
    | ret u => exact I3'.after hq
    | next => exact False.elim hq
    | brk => exact False.elim hq
    | cont => exact False.elim hq
/-- x(..), x a local name that holds an own class -/
theorem s_makeL {N : List Str} {M : Nat} {sc : Scope} {x y : Str} {i : Nat} (S : NOk N M sc) (at_ : At N σ x i (.ref C)) (hi : i < M) (hN : X.N = N ∧ X.env.scope = sc) (c : CalC P w K mg base k y C sp) (hr : Room j A) (hk : k + 1 ≤ j) (hX : XIs X P w K mg base A)
    (h : ZA X (e :: es) σ H fun vs H1 => ∀ a dx, NoA H1 a → NoA H1 dx → dx ≠ a → sp (.ref a :: vs) (upd (upd H1 dx (.own a)) a (.ins C dx [])) (fun v H2 => v = .non ∧ Q (.ref a) H2) (fun cls d H' => XW X cls d σ H'))
    (he : starEach (e :: es) X.env = (false, eval e X.env) :: starEach es X.env) (hpl : (backTo pos (starEach es X.env)).any (·.1) = false) : ZE X (.Call (.Name x p) (e :: es) [] pos) σ H Q := by
  obtain ⟨rfl, rfl, rfl, rfl, rfl, rfl⟩ := hX
  obtain ⟨f, fd, ps, sp0, M, F, gm, im⟩ := c.ex
  refine ⟨fun pins s I => ?_⟩
  refine wpAny_Call_Name_kw (thn ((s_name (pos := p) (H := H) (Q := fun v H' => v = .ref C ∧ H' = H) S at_ hi hN ⟨rfl, rfl⟩).run pins s I) fun u s1 ⟨v, H1, I1, rv, ev, eh⟩ => ?_)
  subst ev
  subst eh
  obtain rfl : u = Value.ref C := rv
  refine PySem.W.callWith_K (h₀ := X.base) I1.ok.mod.kin M.kp (thn (h.run pos pins s1 I1) fun us s2 ⟨vs, H2, I2, r, q⟩ => ⟨I2.kIn, ?_⟩) he hpl
  exact mrun M F (hr.mono hk) I2 r fun a dx n1 n2 ne => im (.ref a :: vs) _ _ _ (q a dx n1 n2 ne)
end
/-- a statement by its own end -/
theorem zs_cut {X : Cx} {st : Stmt} {nx bk ct : NX} {rt : VK} {σ : St} {H : Hp} (Iv : St → Hp → Prop) (h1 : ∀ nx' : NX, (∀ σ1 H1, Iv σ1 H1 → nx' σ1 H1) → ZS X st nx' rt bk ct σ H) (h2 : ∀ σ1 H1, Iv σ1 H1 → nx σ1 H1) : ZS X st nx rt bk ct σ H := h1 _ h2
end L2

/-! Defs called within an except suite with the exception that is handled. -/
namespace L2
open PySem PySem.Spec PyProof.Rows
section
variable {X : Cx} {a : Addr} {oe : Obj} {cls : Value} {d : Option Addr} {H : Hp} {Q : VK} {σ : St}
theorem inst_pin {C : Addr} {pins : List (Addr × Obj)} {s : Shared} (hp : (a, oe) ∈ X.pn) (hz : L2N.Zn cls d oe) (hf : ∃ vs, oe.data = .fields vs) (I : Inv X pins σ H s) (hc : cls = .ref C) (hd : DOk H d) : ∃ od, PySem.W.InstAt s.heap a oe C od := by
  obtain ⟨hget, _⟩ := I.pin (a, oe) (List.mem_append.mpr (.inl hp))
  obtain ⟨vs, hv⟩ := hf
  subst hc
  rcases hd with rfl | ⟨dd, fs, rfl, hx⟩
  · exact ⟨none, hget, hz.1, by unfold PySem.W.notCls; rw [hv] <;> rfl, by rw [hz.2.1]; trivial⟩
  · have hx' : ObjOk X.prog X.w H s.heap dd (.xd fs) := I.hok dd _ hx
    obtain ⟨mA, hns, hr⟩ := hx'
    obtain ⟨od, ho, hl⟩ := lookIn_ns hns
    exact ⟨some od, hget, hz.1, by unfold PySem.W.notCls; rw [hv] <;> rfl, by rw [hz.2.1]; exact ho⟩
theorem cw_isp {D : Addr} {c : V} {cv : Value} {b : Bool} (hp : (a, oe) ∈ X.pn) (hz : L2N.Zn cls d oe) (hf : ∃ vs, oe.data = .fields vs) (hc : cls = .ref D) (T : PySem.LX.ExcT X.K D) (hd : DOk H d) (hv : ClsV c cv) (hk : PySem.W.kitOne X.K (.ref D) cv = some b) (q : Q (.bl b) H) :
    CallW X (.builtin "isinstance") [.ref a, c] H Q := by
  refine ⟨fun pins s σ us I r => ?_⟩
  cases r with
  | cons rx rr =>
    cases rr with
    | cons rt rr =>
      cases rr
      cases rx
      have ec := hv.eq rt
      subst ec
      exact PySem.W.kia_one (PySem.W.kitx_excD (ox := oe) T) I.kIn (inst_pin hp hz hf I hc hd) hk (fun z => nomatch z) fun tk => ⟨.bl b, H, I.kept (t' := tk) fun _ _ z => z, rfl, q⟩
theorem aw_xp {C dd : Addr} {fs : List (Str × V)} {v : V} {n : Str} (hp : (a, oe) ∈ X.pn) (hz : L2N.Zn cls d oe) (hf : ∃ vs, oe.data = .fields vs) (hc : cls = .ref C) (hd : d = some dd) (T : PySem.LX.ExcT X.K C) (hno : PySem.W.findIn X.K (.ref C) n = some none) (ea : H dd = some (.xd fs)) (l : fs.lookup n = some v) (q : Q v H) :
    AtW X n (.ref a) H Q := by
  refine ⟨fun pins s1 σ u I1 rx => ?_⟩
  obtain rfl : u = Value.ref a := rx
  subst hc
  subst hd
  obtain ⟨ha, _⟩ := I1.pin (a, oe) (List.mem_append_left _ hp)
  obtain ⟨vs, hdt⟩ := hf
  have hx : ObjOk X.prog X.w H s1.heap dd (.xd fs) := I1.hok dd _ ea
  obtain ⟨mA, hns, hr⟩ := hx
  obtain ⟨od, ho, hl⟩ := lookIn_ns hns
  obtain ⟨u, hu, ru⟩ := RelO.some_of (v := v) (o := mA n) (by rw [← l]; exact hr n)
  have J : PySem.W.InstAt s1.heap a oe C (some od) := ⟨ha, hz.1, by unfold PySem.W.notCls; rw [hdt] <;> rfl, by rw [hz.2.1]; exact ho⟩
  exact HandSPX.exc_get I1.kIn J T.ga T.gg T.ox.exC (PySem.W.findObj_own T.hd hno rfl (by rw [hl, hu])) (handed_of ru) ⟨v, H, I1.tok _, ru, q⟩
end
/-- a def's promise by the class and the dict of the exception that is handled, and its address -/
abbrev SpX := Value → Option Addr → Addr → Sp
/-- a def run while p's exception is handled -/
def RunX (P : Program) (w : World) (K : PySem.W.Frag) (mg : Str → Option Value) (base : Heap) (k : Nat) (f : Addr) (fd : FuncData) (ps : List Str) (sp : SpX) : Prop :=
  ∀ (A : Around) (outer : List Env) (s : Shared) (H : Hp) (us : List Value) (vs : List V) (Q : VK) (E : XK) (p : Addr × Obj) (cls : Value) (d : Option Addr), L2H.RoomH k A → L2H.Hot1 A p → L2N.Zn cls d p.2 → L2H.PinOk outer H s p → Env0 P w K mg base A outer s H → us.length = ps.length → BindsTo s fd ⟨us, []⟩ (ps.zip us) → Vals vs us → sp cls d p.1 vs H Q E →
    codeAny (model P w) A (Code.call (.ref f) ⟨us, []⟩) (CR (L2N.CX P w) outer P w H s Q E) s
structure CalX (P : Program) (w : World) (K : PySem.W.Frag) (mg : Str → Option Value) (base : Heap) (k : Nat) (x : Str) (sp : SpX) : Prop where
  ex : ∃ (f : Addr) (fd : FuncData) (ps : List Str), RunX P w K mg base k f fd ps sp ∧ mg x = some (.ref f) ∧ PySem.W.keepIn K (.ref f) = true ∧ Binds K fd ps [] ∧ ∀ cls d a vs H Q E, sp cls d a vs H Q E → vs.length = ps.length
theorem FunX.run {P : Program} {w : World} {K : PySem.W.Frag} {mg : Str → Option Value} {base : Heap} {x qual : Str} {st : Stmt} {f : Addr} {fd : FuncData} {N ps : List Str} {k : Nat} {sp : SpX} (F : Fun K x qual st f fd) (S : FnScope N ps (defScope st)) (len : ∀ cls d a vs H Q E, sp cls d a vs H Q E → vs.length = ps.length)
    (hbody : ∀ (cdv : Value) (A : Around) (outer : List Env) (s : Shared) (H : Hp) (vs : List V) (Q : VK) (E : XK) (p : Addr × Obj) (cls : Value) (d : Option Addr), L2H.Hot1 A p → L2N.Zn cls d p.2 → (∃ vs, p.2.data = .fields vs) → L2H.RoomH k (A.deeper (envOfC qual (defScope st) s.heap.objs.size f cdv)) → sp cls d p.1 vs H Q E →
      ZSs (L2H.cxH (L2N.CX P w) P w K mg base N qual (defScope st) f cdv A outer s H E p) (defBody st) (fun _ H' => Q .non H') Q (fun _ _ => False) (fun _ _ => False) (start N vs) H) : RunX P w K mg base (k + 1) f fd ps sp := by
  obtain ⟨oc, od, kV, doc, pm, an, cdv, ct, osl, rfl, lk, hcd⟩ := F.ex
  intro A outer s H us vs Q E p cls d hr hot hz pk e0 hl hb r hsp
  have kin : K.In s.heap := fun a o h => (e0.bs _ _ (e0.mod.kin a o h)).1
  refine Att.call_fn kin (by obtain ⟨mc, ⟨o, es, ep, h1, h2⟩, h3⟩ := e0.mod.nolimit; exact ⟨mc, ⟨o, es, ep, (e0.bs _ _ h1).1, h2⟩, h3⟩) lk hcd (by have := hr.dp; omega) hb ?_ (fun s1 ic => ?_) S.co S.gen S.kind
  · rw [List.all_eq_true]
    intro y hy
    obtain ⟨n, hn⟩ := List.mem_iff_getElem?.mp hy
    rw [List.getElem?_zip_eq_some] at hn
    rcases S.par y.1 (List.mem_of_getElem? hn.1) with h | h <;> simp [h]
  · have I := L2H.inv_startH (CX := L2N.CX P w) (E := E) S pk e0 (len _ _ _ _ _ _ _ hsp) r ic
    refine wpAny_mono ((hbody cdv A outer s H vs Q E p cls d hot hz ⟨_, hot.2.choose_spec.1⟩ (hr.deeper _) hsp).run [] s1 I) (fun fl s' h => ?_) fun e s' h => h
    cases fl with
    | next =>
      obtain ⟨σ', H', J, q⟩ := h
      exact ⟨.non, H', J.os, J.bare, J.base, J.hok, rfl, q⟩
    | brk => obtain ⟨_, _, _, q⟩ := h; exact q.elim
    | cont => obtain ⟨_, _, _, q⟩ := h; exact q.elim
    | ret u =>
      obtain ⟨v, σ', H', J, rv, q⟩ := h
      exact ⟨v, H', J.os, J.bare, J.base, J.hok, rv, q⟩

theorem ze_callX {X : Cx} {a : Addr} {oe : Obj} {cls : Value} {d : Option Addr} {pn : List (Addr × Obj)} {σ : St} {H : Hp} {Q : VK} {P : Program} {w : World} {K : PySem.W.Frag} {mg : Str → Option Value} {base : Heap} {A : Around} {x : Str} {k j : Nat} {sp : SpX} {e : Expr} {es : List Expr} {p pos : Pos} (c : CalX P w K mg base k x sp) (hz : L2N.Zn cls d oe) (hf : ∃ vs, oe.data = .fields vs) (hr : Room j A) (hk : k ≤ j) (hX : XIs X P w K mg base A)
    (h : ZA (X.suite a ((a, oe) :: pn)) (e :: es) σ H fun vs H1 => sp cls d a vs H1 Q fun cls d H' => XW (X.suite a ((a, oe) :: pn)) cls d σ H') (hg : Gl X x)
    (hdb : (x == ("__debug__" : Str)) = false) (he : starEach (e :: es) X.env = (false, eval e X.env) :: starEach es X.env) (hpl : (backTo pos (starEach es X.env)).any (·.1) = false) : ZE (X.suite a ((a, oe) :: pn)) (.Call (.Name x p) (e :: es) [] pos) σ H Q := by
  obtain ⟨rfl, rfl, rfl, rfl, rfl, rfl⟩ := hX
  obtain ⟨f, fd, ps, R, gm, kp, hb, len⟩ := c.ex
  refine ⟨fun pins s I => ?_⟩
  refine wpAny_Call_Name_kw (ld_glob (X := X.suite a ((a, oe) :: pn)) I hg gm ?_ hdb)
  refine PySem.W.callWith_K (h₀ := X.base) I.ok.mod.kin kp (thn (h.run pos pins s I) fun us s1 ⟨vs, H1, I1, r, q⟩ => ⟨I1.kIn, ?_⟩) he hpl
  have hl : us.length = ps.length := by rw [← r.length]; exact len _ _ _ _ _ _ _ q
  obtain ⟨pg, pf, pl, pfs, pc⟩ := I1.pin (a, oe) (List.mem_append_left _ List.mem_cons_self)
  have pk : L2H.PinOk X.stack H1 s1 (a, oe) := ⟨pg, pf, fun z => by
    rcases List.mem_cons.mp (I1.stkSub _ z) with z | z
    · exact pl z
    · exact pfs z, pc⟩
  have hot : L2H.Hot1 (X.A.mark (some (.ref a))) (a, oe) := by
    obtain ⟨vs, hv⟩ := hf
    exact ⟨rfl, vs, hv, hz.2.2 vs hv⟩
  have hb' := hb s1 us I1.kIn (by rw [List.append_nil]; exact hl)
  rw [List.append_nil] at hb'
  refine wpAny_call (codeAny_mono (R (X.A.mark (some (.ref a))) X.stack s1 H1 us vs Q _ (a, oe) cls d ⟨by have := (hr.mono hk).dp; exact this, by have := (hr.mono hk).un; exact this⟩ hot hz pk I1.env0 hl hb' r q) fun r s' hq => ?_)
  cases r with
  | error e => exact takes_xw e s' (L2N.XE.of_call I1 (fun cls d H' w => w) hq)
  | ok fl =>
    cases fl with
    | ret u => exact I1.after hq
    | next => exact False.elim hq
    | brk => exact False.elim hq
    | cont => exact False.elim hq
/-- y not in x, x of an own class -/
theorem ow_notinO {X : Cx} {P : Program} {w : World} {K : PySem.W.Frag} {mg : Str → Option Value} {base : Heap} {A : Around} {σ : St} {H : Hp} {Q : VK} {a C dx : Addr} {fs : List (Str × V)} {k j : Nat} {sp : Sp} {y : V} (cm : CalM P w K mg base k C "__contains__" sp) (hr : Room j A) (hk : k ≤ j) (hX : XIs X P w K mg base A) (ea : H a = some (.ins C dx fs))
    (h : sp [.ref a, y] H (fun v H' => ∃ b, v = .bl b ∧ Q (.bl (!b)) H') fun cls d H' => XW X cls d σ H') : OpW X σ (compareOp .NotIn) y (.ref a) H Q := by
  obtain ⟨rfl, rfl, rfl, rfl, rfl, rfl⟩ := hX
  refine ⟨fun pins s v u I rx ry => ?_⟩
  cases (show u = Value.ref a from ry)
  obtain ⟨_, _, J⟩ := ins_inst I ea
  obtain ⟨mm, hF⟩ := I.fr
  obtain ⟨f, fd, ps, dvs, ds, sp0, F, hm, hb, hd, im⟩ := cm.ex
  refine PySem.W.notIn_K hF I.ok.mod.kin J hm.at_ hm.fn ?_
  refine thn (zrun (us := [.ref a, v]) (vs := [.ref a, y]) F (hr.mono hk) hb hd I (.cons rfl (.cons rx .nil)) (im _ _ _ _ h)) fun r s' z => ?_
  obtain ⟨z', H', I', rz, b, ez, qz⟩ := z
  subst ez
  cases rz
  exact wpAny_truthy_bool ⟨.bl (!b), H', I', rfl, qz⟩
theorem RoomH.u64 {k : Nat} {A : Around} (h : L2H.RoomH k A) : A.units + 64 < cLine := by have := h.un; omega
end L2

namespace Law
open PySem PySem.Spec PyProof.Rows L2

/-! One step by the syntax of the goal ("z"); as many as go by themselves ("zz"); with both ways of a test ("za"). The carrier is the word «fail» with a text. -/
local macro_rules | `(tactic| fail "at") => `(tactic| with_reducible (repeat (first | exact At.here | apply At.there)))
local macro_rules | `(tactic| fail "sat") => `(tactic| with_reducible (repeat (first | exact SetAt.here | apply SetAt.there)))
local macro_rules | `(tactic| fail "ztk") => `(tactic| first | exact Trk.put | exact Trk.of (by assumption) | exact Trk.src (by assumption) | (refine Trk.up ?_; fail "ztk") | (refine Trk.same (by assumption) ?_; fail "ztk"))
local macro_rules | `(tactic| fail "zne") => `(tactic| first | assumption | exact Ne.symm (by assumption) | (refine Trk.ne ?_ (by assumption); fail "ztk") | (refine Ne.symm (Trk.ne ?_ (by assumption)); fail "ztk"))
local macro_rules | `(tactic| fail "zh") => `(tactic| first | assumption | exact upd_same | (refine' Eq.trans (upd_ne ?hne) ?_; (case hne => fail "zne"); fail "zh") | (refine Same.get (by assumption) ?_; fail "zh"))
local macro_rules | `(tactic| fail "zle") => `(tactic| first | exact Nat.le_of_ble_eq_true rfl | fail "zside")
local macro_rules | `(tactic| fail "zno") => `(tactic| first | assumption | exact NoA.e (by assumption) | (refine NoA.free ?_ (by assumption); fail "zsm"))
local macro_rules | `(tactic| fail "zsm") => `(tactic| first | assumption | exact Same.refl _ | (refine Same.put ?_ ?_; (fail "zsm"); (fail "zno")) | (refine Same.new ?_ ?_; (fail "zsm"); (fail "zno")) | (refine Same.trans ?_ (by assumption); fail "zsm"))
local macro_rules | `(tactic| fail "zty") => `(tactic| first | exact .base (.int _) | exact .base (.bl _) | exact .base (.str _) | exact .base .non | (refine' .base (.lst ?e); (case e => fail "zh")) | (refine' .base (.tup ?e); (case e => fail "zh")) | assumption)
local macro_rules | `(tactic| fail "zkb") => `(tactic| first | exact (show kitB _ _ = some true by decide +kernel) | exact (show kitB _ _ = some false by decide +kernel))
local macro_rules | `(tactic| fail "zq") => `(tactic| first | (refine' Or.inl (SqL.of ?hp); (case hp => fail "zh")) | (refine' Or.inr (SqT.of ?hp); (case hp => fail "zh")) | exact Or.inr (by assumption) | exact Or.inl (by assumption) | exact Or.inl (Same.seq (by assumption) (by assumption)) | (refine' Or.inr ((?f : ∀ H', SqT _ H' _ _) _); (case f => assumption)))
local macro_rules | `(tactic| fail "zside") => `(tactic| first | (with_reducible assumption) | omega | assumption | decide)
local macro_rules | `(tactic| fail "zx") => `(tactic| first
  | (refine' xw_lst (SqL.of ?hp) ?hi ?_; (case hp => fail "zh"); (case hi => rfl)) | (refine' xw_tup (SqT.of ?hp) ?hi ?_; (case hp => fail "zh"); (case hi => rfl)))
local macro_rules | `(tactic| fail "zS") => `(tactic| first
  | (with_reducible refine zs_if ?_) | (with_reducible refine zs_ret ?_)
  | ((with_reducible refine' s_set ‹NOk _ _ _› ?hN ?hf ?k ?hs); (case hN => exact ⟨rfl, rfl⟩); (case hf => rfl); (case hs => rfl))
  | ((with_reducible refine' s_expr ?k ?hs); (case hs => rfl))
  | ((with_reducible refine' s_attrS ?k ?hs); (case hs => rfl))
  | ((with_reducible refine' s_asg ?k ?hs ?hw ?h1); (case hs => rfl); (case hw => rfl); (case h1 => rfl))
  | ((with_reducible refine' s_raise ?c ‹Room _ _› ?hX ?hc ?k ?hg ?hdb ?he ?hpl); (case c => (with_reducible assumption)); (case hX => exact ⟨rfl, rfl, rfl, rfl, rfl, rfl⟩); (case hc => rfl); (case hg => rfl); (case hdb => decide); (case he => rfl); (case hpl => rfl))
  | ((with_reducible refine' s_raise0 ?c ?hX ?hc ?k ?hg ?hdb); (case c => (with_reducible assumption)); (case hX => exact ⟨rfl, rfl, rfl, rfl, rfl, rfl⟩); (case hc => rfl); (case hg => rfl); (case hdb => decide))
  | (with_reducible refine zs_pass ?_) | (with_reducible refine zs_retN ?_) | (with_reducible refine zs_break ?_) | (with_reducible refine zs_continue ?_))
local macro_rules | `(tactic| fail "zlev") => `(tactic| first | decide | exact Nat.le_refl _ | omega)
local macro_rules | `(tactic| fail "zbf") => `(tactic| with_reducible first | exact BFn.len | exact BFn.abs | exact BFn.isi | exact BFn.max | exact BFn.min | exact BFn.dm)
local macro_rules | `(tactic| fail "zbt") => `(tactic| with_reducible first | exact BTy.int | exact BTy.boo | exact BTy.str | exact BTy.tup | exact BTy.lst | exact BTy.ve)
local macro_rules | `(tactic| fail "zbm") => `(tactic| with_reducible first | exact BM.startswith | exact BM.upper | exact BM.index | exact BM.append | exact BM.join | exact BM.lower | exact BM.strip | exact BM.find | exact BM.count | exact BM.split | exact BM.endswith | exact BM.isdigit | exact BM.isalpha | exact BM.partition | exact BM.rstrip | exact BM.lstrip | exact BM.isspace | exact BM.isalnum)
local macro_rules | `(tactic| fail "zM") => `(tactic| first
  | ((with_reducible refine' s_bm ?f ?k ?hb ?hl ?hfew ?hs ?hpl); (case f => fail "zbm"); (case hb => rfl); (case hl => rfl); (case hfew => rfl); (case hs => rfl); (case hpl => rfl))
  | ((with_reducible refine' s_bm0 ?f ?k ?hb ?hl); (case f => fail "zbm"); (case hb => rfl); (case hl => rfl))
  | ((with_reducible refine' s_meth ?cm ?cl ‹Room _ _› ?hk ?hX ?k ?hs ?hp ?ht); (case cm => (with_reducible assumption)); (case cl => assumption); (case hk => fail "zlev"); (case hX => exact ⟨rfl, rfl, rfl, rfl, rfl, rfl⟩); (case hs => rfl); (case hp => rfl); (case ht => rfl))
  | ((with_reducible refine' s_meth0 ?cm ?cl ‹Room _ _› ?hk ?hX ?k ?ht); (case cm => (with_reducible assumption)); (case cl => assumption); (case hk => fail "zlev"); (case hX => exact ⟨rfl, rfl, rfl, rfl, rfl, rfl⟩); (case ht => rfl)))
local macro_rules | `(tactic| fail "zC") => `(tactic| first
  | ((with_reducible refine' s_callB ?f ‹Blt _› ?hB ?k ?hg ?he ?hpl); (case f => fail "zbf"); (case hB => rfl); (case hg => rfl); (case he => rfl); (case hpl => rfl))
  | ((with_reducible refine' s_callT ?f ‹Blt _› ?hB ?k ?hg ?he ?hpl); (case f => fail "zbt"); (case hB => rfl); (case hg => rfl); (case he => rfl); (case hpl => rfl)))
local macro_rules | `(tactic| fail "zD") => `(tactic| first
  | ((with_reducible refine' s_call ?c ‹Room _ _› ?hk ?hX ?k ?hg ?hdb ?he ?hpl); (case c => (with_reducible assumption)); (case hk => first | decide | exact Nat.le_refl _ | omega); (case hX => exact ⟨rfl, rfl, rfl, rfl, rfl, rfl⟩); (case hg => rfl); (case hdb => decide); (case he => rfl); (case hpl => rfl))
  | ((with_reducible refine' s_callH ?c (by assumption) (by assumption) ‹Room _ _› ?hk ?hX ?k ?hg ?hdb ?he ?hpl); (case c => (with_reducible assumption)); (case hk => first | decide | exact Nat.le_refl _ | omega); (case hX => exact ⟨rfl, rfl, rfl, rfl, rfl, rfl⟩); (case hg => rfl); (case hdb => decide); (case he => rfl); (case hpl => rfl))
  | ((with_reducible refine' s_make ?c ‹Room _ _› ?hk ?hX ?k ?hg ?hdb ?he ?hpl); (case c => (with_reducible assumption)); (case hk => first | decide | exact Nat.le_refl _ | omega); (case hX => exact ⟨rfl, rfl, rfl, rfl, rfl, rfl⟩); (case hg => rfl); (case hdb => decide); (case he => rfl); (case hpl => rfl))
  | ((with_reducible refine' s_makeK ?c ‹Room _ _› ?hk ?hX ?k ?hg ?hall ?hks ?hdb ?he ?hpl); (case hks => rfl); (case c => assumption); (case hk => fail "zlev"); (case hX => exact ⟨rfl, rfl, rfl, rfl, rfl, rfl⟩); (case hg => rfl); (case hall => rfl); (case hdb => decide); (case he => rfl); (case hpl => rfl))
  | ((with_reducible refine' s_call0 ?c ‹Room _ _› ?hk ?hX ?k ?hg ?hdb); (case c => (with_reducible assumption)); (case hk => first | decide | exact Nat.le_refl _ | omega); (case hX => exact ⟨rfl, rfl, rfl, rfl, rfl, rfl⟩); (case hg => rfl); (case hdb => decide)))
local macro_rules | `(tactic| fail "zn") => `(tactic| first
  | ((with_reducible refine' s_name ‹NOk _ _ _› ?ha ?hi ?hN ?k); (case ha => fail "at"); (case hi => decide); (case hN => exact ⟨rfl, rfl⟩))
  | ((with_reducible refine' s_bty ?f ‹Blt _› ?hB ?hg ?k); (case f => fail "zbt"); (case hB => rfl); (case hg => rfl))
  | ((with_reducible refine' s_gref ?hm ?hB ?hg ?hd ?k); (case hm => (with_reducible assumption)); (case hB => rfl); (case hg => rfl); (case hd => decide))
  | ((with_reducible refine' b_name ‹NOk _ _ _› ?hN ?ha ?hv ?hd ?hcd ?k); (case hN => rfl); (case ha => fail "at"); (case hv => first | exact Or.inl rfl | exact Or.inr (Or.inl rfl) | exact Or.inr (Or.inr rfl)); (case hd => decide); (case hcd => decide)))
local macro_rules | `(tactic| fail "zE") => `(tactic| first
  | ((with_reducible show ZE _ (Expr.Name _ _) _ _ _); fail "zn")
  | (with_reducible refine ze_int ?_) | (with_reducible refine ze_str ?_)
  | (with_reducible refine ze_op ?_)
  | ((with_reducible refine ze_slice ?_))
  | ((with_reducible refine' s_sub ?k ?hs); (case hs => exact fun _ _ => rfl))
  | ((with_reducible refine' ze_cmp ?hm ?k); (case hm => first | exact nomark _ | rfl))
  | ((with_reducible refine' s_attr ?k ?hb); (case hb => rfl))
  | ((with_reducible show ZE _ (Expr.Call (Expr.Name _ _) _ _ _) _ _ _); first | fail "zC" | fail "zD")
  | ((with_reducible show ZE _ (Expr.Call (Expr.Attribute _ _ _) _ _ _) _ _ _); fail "zM")
  | (with_reducible refine ze_bl ?_) | (with_reducible refine ze_non ?_)
  | (with_reducible refine ze_notV ?_) | (with_reducible refine ze_un ?_) | (with_reducible refine ze_and ?_) | (with_reducible refine ze_or ?_) | (with_reducible refine ze_and1 ?_) | (with_reducible refine ze_if ?_)
  | ((with_reducible refine' ze_chain ?hm ?k); (case hm => rfl))
  | (with_reducible refine ze_lst ?_) | (with_reducible refine ze_tup ?_))
local macro_rules | `(tactic| fail "zT") => `(tactic| first
  | ((with_reducible refine' zt_cmp ?hm ?k); (case hm => first | exact nomark _ | rfl))
  | (with_reducible refine zt_not ?_) | (with_reducible refine zt_and ?_) | (with_reducible refine zt_or ?_)
  | ((with_reducible refine' zt_chain ?hm ?k); (case hm => rfl))
  | ((with_reducible refine' s_val ?k ?he); (case he => (intro _; rfl))))
local macro_rules | `(tactic| fail "zdp") => `(tactic| first | exact Dp.int _ | exact Dp.str _ | exact Dp.bl _ | exact Dp.non | (refine' Dp.lst (SqL.of ?hh) ?kk; (case hh => fail "zh"); (case kk => fail "zdpa")) | (refine' Dp.tup (SqT.of ?hh) ?kk; (case hh => fail "zh"); (case kk => fail "zdpa")))
local macro_rules | `(tactic| fail "zdpa") => `(tactic| first | exact DpAll.nil | (refine' DpAll.cons ?hh ?kk; (case hh => fail "zdp"); (case kk => fail "zdpa")))
local macro_rules | `(tactic| fail "zO") => `(tactic| first
  | (with_reducible refine ow_add ?_) | (with_reducible refine ow_sub ?_) | (with_reducible refine ow_eqi ?_) | (with_reducible refine ow_nei ?_) | (with_reducible refine ow_lt ?_) | (with_reducible refine ow_le ?_) | (with_reducible refine ow_gt ?_) | (with_reducible refine ow_ge ?_)
  | (with_reducible refine ow_eqs ?_) | (with_reducible refine ow_nes ?_) | (with_reducible refine ow_isN ?_) | (with_reducible refine ow_notN ?_) | (with_reducible refine ow_eqb ?_) | (with_reducible refine ow_neb ?_)
  | ((with_reducible refine' ow_eqD ?hu ?hx ?hy ?h1 ?h2 ?hr ?k); (case hu => (have hu := Room.u64 (‹Room _ _›); exact hu)); (case hx => fail "zdp"); (case hy => fail "zdp"); (case h1 => rfl); (case h2 => rfl); (case hr => first | exact (show PyData.eqv _ _ = true from rfl) | exact (show PyData.eqv _ _ = false from rfl) | (refine (show PyData.eqv _ _ = true from ?_); simp only [PyData.eqv, PyData.eqvAll, beq_self_eq_true, Bool.and_self, Bool.and_true])))
  | ((with_reducible refine' ow_addl ?h1 ?h2 ?hc (intro_no fun _ _ => ?k)); (case h1 => fail "zh"); (case h2 => fail "zh"); (first | (case hc => fail "zle") | skip))
  | ((with_reducible refine' ow_adds ?hc ?k); (first | (case hc => fail "zle") | skip))
  | ((with_reducible refine' ow_in ?hs ?hx ?ha ?k); (case hs => fail "zq"); (case hx => rfl); (case ha => rfl)) | ((with_reducible refine' ow_notin ?hs ?hx ?ha ?k); (case hs => fail "zq"); (case hx => rfl); (case ha => rfl))
  | ((with_reducible refine' ow_mod ?hc ?k); (case hc => fail "zside")) | ((with_reducible refine' ow_fdiv ?hc ?k); (case hc => exact ⟨by fail "zside", by fail "zside"⟩))
  | ((with_reducible refine' ow_mul ?hc ?k); (case hc => first | exact .inr ⟨by fail "zside", by fail "zside"⟩ | exact .inl ⟨by fail "zside", by fail "zside"⟩))
  | (with_reducible refine' ow_mulW ?hc ?k)
  | (with_reducible refine' ow_fdivW ?hc ?k)
  | ((with_reducible refine' ow_pow ?hc ?k); (case hc => exact ⟨by fail "zside", by fail "zside", by fail "zside"⟩)))
local macro_rules | `(tactic| fail "zbin") => `(tactic| with_reducible first | exact BinM.add | exact BinM.sub | exact BinM.mul | exact BinM.fdiv | exact BinM.mod | exact BinM.pow | exact BinM.shl | exact BinM.shr | exact BinM.div | exact BinM.band)
local macro_rules | `(tactic| fail "zcm") => `(tactic| with_reducible first | exact CmpM.lt | exact CmpM.le | exact CmpM.gt | exact CmpM.ge | exact CmpM.eq)
local macro_rules | `(tactic| fail "zOwn") => `(tactic| first
  | ((with_reducible refine' ow_bin ?bm ?cm ?hc ‹Room _ _› ?hk ?hX ?ea ?eb ?k); (case bm => fail "zbin"); (case ea => fail "zh"); (case eb => fail "zh"); (case cm => (with_reducible assumption)); (case hc => assumption); (case hk => fail "zlev"); (case hX => exact ⟨rfl, rfl, rfl, rfl, rfl, rfl⟩))
  | ((with_reducible refine' ow_binI ?bm ?cm ?hc ?T ‹Room _ _› ?hk ?hX ?ea ?k); (case bm => fail "zbin"); (case ea => fail "zh"); (case cm => (with_reducible assumption)); (case hc => assumption); (case T => assumption); (case hk => fail "zlev"); (case hX => exact ⟨rfl, rfl, rfl, rfl, rfl, rfl⟩))
  | ((with_reducible refine' ow_inO ?cm ‹Room _ _› ?hk ?hX ?ea ?k); (case ea => fail "zh"); (case cm => (with_reducible assumption)); (case hk => fail "zlev"); (case hX => exact ⟨rfl, rfl, rfl, rfl, rfl, rfl⟩))
  | ((with_reducible refine' ow_cmpO ?bm ?cm ‹Room _ _› ?hk ?hX ?ea ?eb ?k); (case bm => fail "zcm"); (case ea => fail "zh"); (case eb => fail "zh"); (case cm => (with_reducible assumption)); (case hk => fail "zlev"); (case hX => exact ⟨rfl, rfl, rfl, rfl, rfl, rfl⟩)))
local macro_rules | `(tactic| fail "z") => `(tactic| first
  | ((with_reducible show ZE _ _ _ _ _); fail "zE")
  | ((with_reducible show OpW _ _ _ _ _ _ _); first | fail "zO" | fail "zOwn")
  | (with_reducible refine ⟨_, rfl, ?_⟩)
  | ((with_reducible refine' s_setAt ?sa ?hi ?k); (case sa => fail "sat"); (case hi => decide))
  | ((with_reducible show ZSs _ _ _ _ _ _ _ _); with_reducible (first | refine zss_one ?_ | refine zss_cons ?_ | refine zss_nil ?_))
  | ((with_reducible show ZS _ _ _ _ _ _ _ _); fail "zS")
  | ((with_reducible show ZT _ _ _ _ _); fail "zT")
  | ((with_reducible show ZW _ _ _ _ _); with_reducible (first | refine zw_and ?_ | refine zw_or ?_ | refine zw_and1 ?_ | refine zw_or1 ?_))
  | ((with_reducible show ZA _ _ _ _ _); first | ((with_reducible refine' s_cons ?k ?hs); (case hs => rfl)) | (with_reducible refine za_nil ?_))
  | ((with_reducible show CallW _ _ _ _ _); first | ((with_reducible refine' cw_isx (by assumption) (by assumption) ?hc ?T ?hd ?hv ?hk ?_); (case hc => rfl); (case T => assumption); (case hd => first | exact Or.inl rfl | exact Or.inr ⟨_, _, rfl, by fail "zh"⟩); (case hv => first | exact .own _ | exact .ty _); (case hk => assumption)) | ((with_reducible refine' cw_isb ?hx ?hk ?_); (case hx => fail "zty"); (case hk => fail "zkb")) | ((with_reducible refine' cw_isi (.ty _) ?hx ?hk ?_); (case hx => exact ClsI.ty (by assumption) (by fail "zh")); (case hk => assumption)) | ((with_reducible refine' cw_isi (.own _) ?hx ?hk ?_); (case hx => first | exact ClsI.ty (by assumption) (by fail "zh") | fail "zty"); (case hk => first | exact kit_self | assumption)) | (with_reducible refine cw_int ?_) | ((with_reducible refine' cw_tuple ?hs (intro_no fun _ _ => ?_)); (case hs => first | exact SqL.of (by fail "zh") | assumption)) | ((with_reducible refine' cw_divmod ?hc (intro_no fun _ _ => ?_)); (case hc => exact ⟨by fail "zside", by fail "zside"⟩)) | ((with_reducible refine' cw_list ?hs (intro_no fun _ _ => ?_)); (case hs => fail "zq")) | ((with_reducible refine' cw_min2 ?hc ?k); (case hc => rfl)) | ((with_reducible refine' cw_max2 ?hc ?k); (case hc => rfl)) | (with_reducible refine cw_abs ?_) | ((with_reducible refine' cw_absO ?cm ‹Room _ _› ?hk ?hX ?ea ?k); (case ea => fail "zh"); (case cm => (with_reducible assumption)); (case hk => fail "zlev"); (case hX => exact ⟨rfl, rfl, rfl, rfl, rfl, rfl⟩)) | (with_reducible refine cw_intb ?_) | ((with_reducible refine' cw_lenq ?hs ?k); (case hs => fail "zq")) | ((with_reducible refine' cw_lens ?hs ?k); (first | (case hs => fail "zle") | skip)))
  | ((with_reducible show IxW _ _ _ _ _ _); fail "zx")
  | ((with_reducible show MtW _ _ _ _ _ _); first | (with_reducible refine mw_startswith ?_) | (with_reducible refine mw_endswith ?_) | (with_reducible refine mw_find ?_) | (with_reducible refine mw_count ?_) | ((with_reducible refine' mw_upper ?hz ?k); (first | (case hz => fail "zle") | skip)) | ((with_reducible refine' mw_lower ?hz ?k); (first | (case hz => fail "zle") | skip)) | ((with_reducible refine' mw_split ?hz2 ?hz (fun _ _ => ?k)); (case hz2 => decide); (first | (case hz => fail "zle") | skip)) | ((with_reducible refine' mw_append ?hs ?hz ?k); (case hs => fail "zh"); (first | (case hz => fail "zside") | skip)))
  | ((with_reducible show tyV _ _ _ _ ∧ _); refine And.intro (by first | exact rfl | exact Or.inl ⟨rfl, _, SqL.of (by fail "zh")⟩ | exact Or.inl ⟨rfl, _, by assumption⟩) ?_)
  | ((with_reducible show V.non = V.non ∧ _); refine And.intro rfl ?_)
  | (with_reducible refine zk_cons ?_) | (with_reducible refine zk_nil ?_)
  | ((with_reducible show List.length _ = _ ∧ List.length _ = _ ∧ _); refine ⟨rfl, rfl, ?_⟩)
  | ((with_reducible refine' OwnAt.do ?e ?l ?k); (case e => fail "zh"); (case l => rfl))
  | ((with_reducible show _ ≤ sizeLine ∧ _); refine And.intro (by fail "zle") ?_)
  | ((with_reducible show ∀ p, _ = none → _); refine intro_no (fun _ _ => ?_))
  | ((with_reducible show List.length _ = List.length _ ∧ _ ∧ _); refine ⟨rfl, Nat.le_of_ble_eq_true rfl, ?_⟩)
  | (with_reducible refine xw_def ?_)
  | ((with_reducible show ZO _ _ _ _ _); with_reducible (first | refine zo_none ?_ | refine zo_some ?_))
  | ((with_reducible show SlW _ _ _ _ _ _); first | ((with_reducible refine' slw_str ?hz ?k); (first | (case hz => fail "zle") | skip)) | ((with_reducible refine' slw_lst ?hs (intro_no fun _ _ => ?k)); (case hs => first | exact SqL.of (by fail "zh") | assumption)))
  | fail "zP"
  | ((with_reducible show SetW _ _ _ _ _ _); refine' sw_lst ?hp ?hi ?_; (case hp => fail "zh"); (case hi => rfl))
  | ((with_reducible show ZG _ (Expr.Tuple _ _ _) _ _ _ _); first | (refine zg_tup rfl ?_; refine ⟨_, _, rfl, SqT.of (by fail "zh"), rfl, ?_⟩) | (refine zg_lst rfl ?_; refine ⟨_, _, rfl, SqL.of (by fail "zh"), rfl, ?_⟩))
  | ((with_reducible show ZG _ _ _ _ _ _); first | ((with_reducible refine' s_gsub ?k ?ha); (case ha => (intro _; rfl))) | ((with_reducible refine' s_gname ‹NOk _ _ _› ?sa ?hi ?hN ?hf ?k); (case sa => fail "sat"); (case hi => decide); (case hN => exact ⟨rfl, rfl⟩); (case hf => rfl)) | ((with_reducible refine' b_gname ‹NOk _ _ _› ?hN ?sa ?hx ?hf ?k); (case hN => rfl); (case sa => fail "sat"); (case hx => first | exact Or.inl rfl | exact Or.inr rfl); (case hf => first | exact .inl rfl | exact .inr rfl)))
  | ((with_reducible show ZA1 _ _ _ _ _); first | ((with_reducible refine' za1_cons ?k ?hs); (case hs => rfl)) | (with_reducible refine za1_nil ?_))
  | ((with_reducible show ZE1 _ _ _ _ _); first | refine ze1_repl ?_ | (with_reducible refine ze1_of ?_))
  | ((with_reducible show _ ≤ 16777216 ∧ _); refine And.intro ?_ ?_)
  | ((with_reducible show AtW _ _ _ _ _); first
      | ((with_reducible refine' aw_xd (by assumption) (by assumption) ?hc ?hd ?T ?hno ?ea ?l ?q); (case hc => rfl); (case hd => rfl); (case T => assumption); (case hno => assumption); (case ea => fail "zh"); (case l => rfl))
      | ((with_reducible refine' aw_fld ?e ?c ?n ?l ?q); (case e => fail "zh"); (case c => assumption); (case n => assumption); (case l => rfl))
      | ((with_reducible refine' aw_cval ?r ?k ?q); (case k => assumption); (case r => assumption))
      | ((with_reducible refine' aw_prop ?c ?cl ‹Room _ _› ?hk ?hX ?e ?k); (case c => (with_reducible assumption)); (case e => fail "zh"); (case cl => assumption); (case hk => first | decide | exact Nat.le_refl _ | omega); (case hX => exact ⟨rfl, rfl, rfl, rfl, rfl, rfl⟩)))
  | ((with_reducible show ∃ p C dx fs, _ = V.ref p ∧ _); refine ⟨_, _, _, _, rfl, by fail "zh", by assumption, by assumption, Nat.le_of_ble_eq_true rfl, ?_⟩)
  | ((with_reducible show ∀ a dx, NoA _ a → _); intro _ _ _ _ _)
  | ((with_reducible show UnW _ _ _ _ _); refine uw_neg ?_)
  | (with_reducible refine zgs_nil ?_) | refine zgs_cons ?_)
local macro_rules | `(tactic| fail "zbk") => `(tactic| simp only [reduceCtorEq, decide_true, decide_false, Bool.not_true, Bool.not_false, Bool.true_eq_false, Bool.false_eq_true, not_false_eq_true, not_true_eq_false])
local macro_rules | `(tactic| fail "zi") => `(tactic| first
  | ((with_reducible refine' iteP ?h ?_); (case h => fail "zbk")) | ((with_reducible refine' iteN ?h ?_); (case h => fail "zbk"))
  | (with_reducible refine iteT ?_) | (with_reducible refine iteF ?_) | (with_reducible refine zite_d (fun hc => ?_) (fun hc => ?_)) | (with_reducible refine zite_n (fun hc => ?_) (fun hc => ?_)) | (with_reducible refine zite_nb (fun hc => ?_) (fun hc => ?_)) | (with_reducible refine zite_b (fun hc => ?_) (fun hc => ?_)))
local macro_rules | `(tactic| fail "zz") => `(tactic| repeat (first | fail "z" | (with_reducible refine iteT ?_) | (with_reducible refine iteF ?_)))
local macro_rules | `(tactic| fail "za") => `(tactic| repeat' (first | fail "z" | fail "zi"))
local macro_rules | `(tactic| fail "z0") => `(tactic| ((first | refine zss_one ?_ | refine zss_cons ?_); fail "za"))
local macro_rules | `(tactic| fail "zsrc") => `(tactic| first | assumption | (refine Src.same (by assumption) ?_; fail "zsrc") | (refine Src.same (Same.new (Same.refl _) (NoA.e (by assumption))) ?_; fail "zsrc") | (refine Src.same ?_ (by assumption); fail "zsm"))
local macro_rules | `(tactic| fail "zP") => `(tactic| (with_reducible refine' draw_do ?h1 ?h2 ?h3 (fun _ _ _ => ?h)); (first | (case h1 => fail "zside") | skip); (first | (case h2 => fail "zside") | skip); (case h3 => fail "zsrc"))
local macro_rules | `(tactic| fail "zsc") => `(tactic| with_reducible first | exact Sc.mapS | exact Sc.mapI | exact Sc.nil | (refine Sc.app ?_ ?_ <;> fail "zsc") | (refine Sc.cons (by first | exact .bl _ | exact .str _ | exact .int _ | exact .non) ?_; fail "zsc"))
variable {P : Program} {w : World} {K : PySem.W.Frag} {mg : Str → Option Value} {base : Heap}

def topS (i : Nat) : Stmt := PySem.Challenge.pw_lostpart_k72_rank_and_number.main.body.getD i (.Pass ⟨0, 0, 0, 0⟩)
abbrev S__wall : Stmt := topS 0
abbrev N__wall : List Str := ["k"]
theorem sc__wall : FnScope ["k"] ["k"] (defScope S__wall) := ⟨rfl, rfl, rfl, by decide +kernel, rfl, by decide +kernel, by decide +kernel⟩
theorem nk__wall : NOk ["k"] 1 (defScope S__wall) := ⟨sc__wall.nd, by decide +kernel⟩
abbrev S_BadBase___init__ : Stmt := inClass (topS 3) 0
abbrev N_BadBase___init__ : List Str := ["self", "base"]
abbrev S_BadGrid___init__ : Stmt := inClass (topS 4) 0
abbrev N_BadGrid___init__ : List Str := ["self", "what"]
abbrev S_MixedBases___init__ : Stmt := inClass (topS 5) 0
abbrev N_MixedBases___init__ : List Str := ["self", "left", "right"]
abbrev S_NotANumber___init__ : Stmt := inClass (topS 6) 0
abbrev N_NotANumber___init__ : List Str := ["self", "value"]
abbrev S_NoPower___init__ : Stmt := inClass (topS 9) 0
abbrev N_NoPower___init__ : List Str := ["self", "power"]
abbrev S_NoRank___init__ : Stmt := inClass (topS 10) 0
abbrev N_NoRank___init__ : List Str := ["self", "rank"]
abbrev S_power : Stmt := topS 12
abbrev N_power : List Str := ["base", "count", "result", "square"]
theorem sc_power : FnScope ["base", "count", "result", "square"] ["base", "count"] (defScope S_power) := ⟨rfl, rfl, rfl, by decide +kernel, rfl, by decide +kernel, by decide +kernel⟩
theorem nk_power : NOk ["base", "count", "result", "square"] 4 (defScope S_power) := ⟨sc_power.nd, by decide +kernel⟩
abbrev S_squares_up_to : Stmt := topS 13
abbrev N_squares_up_to : List Str := ["base", "size", "squares", "square"]
theorem sc_squares_up_to : FnScope ["base", "size", "squares", "square"] ["base", "size"] (defScope S_squares_up_to) := ⟨rfl, rfl, rfl, by decide +kernel, rfl, by decide +kernel, by decide +kernel⟩
theorem nk_squares_up_to : NOk ["base", "size", "squares", "square"] 4 (defScope S_squares_up_to) := ⟨sc_squares_up_to.nd, by decide +kernel⟩
abbrev S_count_digits : Stmt := topS 14
abbrev N_count_digits : List Str := ["base", "coefficient", "rest", "squares", "count", "k"]
theorem sc_count_digits : FnScope ["base", "coefficient", "rest", "squares", "count", "k"] ["base", "coefficient"] (defScope S_count_digits) := ⟨rfl, rfl, rfl, by decide +kernel, rfl, by decide +kernel, by decide +kernel⟩
theorem nk_count_digits : NOk ["base", "coefficient", "rest", "squares", "count", "k"] 6 (defScope S_count_digits) := ⟨sc_count_digits.nd, by decide +kernel⟩
abbrev S_without_zeros : Stmt := topS 15
abbrev N_without_zeros : List Str := ["base", "coefficient", "squares", "rest", "count", "k"]
theorem sc_without_zeros : FnScope ["base", "coefficient", "squares", "rest", "count", "k"] ["base", "coefficient"] (defScope S_without_zeros) := ⟨rfl, rfl, rfl, by decide +kernel, rfl, by decide +kernel, by decide +kernel⟩
theorem nk_without_zeros : NOk ["base", "coefficient", "squares", "rest", "count", "k"] 6 (defScope S_without_zeros) := ⟨sc_without_zeros.nd, by decide +kernel⟩
abbrev S_check_base : Stmt := topS 16
abbrev N_check_base : List Str := ["base"]
theorem sc_check_base : FnScope ["base"] ["base"] (defScope S_check_base) := ⟨rfl, rfl, rfl, by decide +kernel, rfl, by decide +kernel, by decide +kernel⟩
theorem nk_check_base : NOk ["base"] 1 (defScope S_check_base) := ⟨sc_check_base.nd, by decide +kernel⟩
abbrev S_Exact___init__ : Stmt := inClass (topS 17) 0
abbrev N_Exact___init__ : List Str := ["self", "base", "coefficient", "exponent", "rest", "count"]
theorem sc_Exact___init__ : FnScope ["self", "base", "coefficient", "exponent", "rest", "count"] ["self", "base", "coefficient", "exponent"] (defScope S_Exact___init__) := ⟨rfl, rfl, rfl, by decide +kernel, rfl, by decide +kernel, by decide +kernel⟩
theorem nk_Exact___init__ : NOk ["self", "base", "coefficient", "exponent", "rest", "count"] 6 (defScope S_Exact___init__) := ⟨sc_Exact___init__.nd, by decide +kernel⟩
abbrev S_Exact_sign : Stmt := inClass (topS 17) 1
abbrev N_Exact_sign : List Str := ["self"]
theorem sc_Exact_sign : FnScope ["self"] ["self"] (defScope S_Exact_sign) := ⟨rfl, rfl, rfl, by decide +kernel, rfl, by decide +kernel, by decide +kernel⟩
theorem nk_Exact_sign : NOk ["self"] 1 (defScope S_Exact_sign) := ⟨sc_Exact_sign.nd, by decide +kernel⟩
abbrev S_Exact_digits : Stmt := inClass (topS 17) 2
abbrev N_Exact_digits : List Str := ["self"]
theorem sc_Exact_digits : FnScope ["self"] ["self"] (defScope S_Exact_digits) := ⟨rfl, rfl, rfl, by decide +kernel, rfl, by decide +kernel, by decide +kernel⟩
theorem nk_Exact_digits : NOk ["self"] 1 (defScope S_Exact_digits) := ⟨sc_Exact_digits.nd, by decide +kernel⟩
abbrev S_Exact_place : Stmt := inClass (topS 17) 3
abbrev N_Exact_place : List Str := ["self"]
theorem sc_Exact_place : FnScope ["self"] ["self"] (defScope S_Exact_place) := ⟨rfl, rfl, rfl, by decide +kernel, rfl, by decide +kernel, by decide +kernel⟩
theorem nk_Exact_place : NOk ["self"] 1 (defScope S_Exact_place) := ⟨sc_Exact_place.nd, by decide +kernel⟩
abbrev S_Exact___add__ : Stmt := inClass (topS 17) 4
abbrev N_Exact___add__ : List Str := ["self", "other"]
theorem sc_Exact___add__ : FnScope ["self", "other"] ["self", "other"] (defScope S_Exact___add__) := ⟨rfl, rfl, rfl, by decide +kernel, rfl, by decide +kernel, by decide +kernel⟩
theorem nk_Exact___add__ : NOk ["self", "other"] 2 (defScope S_Exact___add__) := ⟨sc_Exact___add__.nd, by decide +kernel⟩
abbrev S_Exact___radd__ : Stmt := inClass (topS 17) 5
abbrev N_Exact___radd__ : List Str := ["self", "other"]
theorem sc_Exact___radd__ : FnScope ["self", "other"] ["self", "other"] (defScope S_Exact___radd__) := ⟨rfl, rfl, rfl, by decide +kernel, rfl, by decide +kernel, by decide +kernel⟩
theorem nk_Exact___radd__ : NOk ["self", "other"] 2 (defScope S_Exact___radd__) := ⟨sc_Exact___radd__.nd, by decide +kernel⟩
abbrev S_Exact___sub__ : Stmt := inClass (topS 17) 6
abbrev N_Exact___sub__ : List Str := ["self", "other"]
theorem sc_Exact___sub__ : FnScope ["self", "other"] ["self", "other"] (defScope S_Exact___sub__) := ⟨rfl, rfl, rfl, by decide +kernel, rfl, by decide +kernel, by decide +kernel⟩
theorem nk_Exact___sub__ : NOk ["self", "other"] 2 (defScope S_Exact___sub__) := ⟨sc_Exact___sub__.nd, by decide +kernel⟩
abbrev S_Exact___rsub__ : Stmt := inClass (topS 17) 7
abbrev N_Exact___rsub__ : List Str := ["self", "other"]
theorem sc_Exact___rsub__ : FnScope ["self", "other"] ["self", "other"] (defScope S_Exact___rsub__) := ⟨rfl, rfl, rfl, by decide +kernel, rfl, by decide +kernel, by decide +kernel⟩
theorem nk_Exact___rsub__ : NOk ["self", "other"] 2 (defScope S_Exact___rsub__) := ⟨sc_Exact___rsub__.nd, by decide +kernel⟩
abbrev S_Exact___mul__ : Stmt := inClass (topS 17) 8
abbrev N_Exact___mul__ : List Str := ["self", "other"]
theorem sc_Exact___mul__ : FnScope ["self", "other"] ["self", "other"] (defScope S_Exact___mul__) := ⟨rfl, rfl, rfl, by decide +kernel, rfl, by decide +kernel, by decide +kernel⟩
theorem nk_Exact___mul__ : NOk ["self", "other"] 2 (defScope S_Exact___mul__) := ⟨sc_Exact___mul__.nd, by decide +kernel⟩
abbrev S_Exact___rmul__ : Stmt := inClass (topS 17) 9
abbrev N_Exact___rmul__ : List Str := ["self", "other"]
theorem sc_Exact___rmul__ : FnScope ["self", "other"] ["self", "other"] (defScope S_Exact___rmul__) := ⟨rfl, rfl, rfl, by decide +kernel, rfl, by decide +kernel, by decide +kernel⟩
theorem nk_Exact___rmul__ : NOk ["self", "other"] 2 (defScope S_Exact___rmul__) := ⟨sc_Exact___rmul__.nd, by decide +kernel⟩
abbrev S_Exact___neg__ : Stmt := inClass (topS 17) 10
abbrev N_Exact___neg__ : List Str := ["self"]
theorem sc_Exact___neg__ : FnScope ["self"] ["self"] (defScope S_Exact___neg__) := ⟨rfl, rfl, rfl, by decide +kernel, rfl, by decide +kernel, by decide +kernel⟩
theorem nk_Exact___neg__ : NOk ["self"] 1 (defScope S_Exact___neg__) := ⟨sc_Exact___neg__.nd, by decide +kernel⟩
abbrev S_Exact___abs__ : Stmt := inClass (topS 17) 11
abbrev N_Exact___abs__ : List Str := ["self"]
theorem sc_Exact___abs__ : FnScope ["self"] ["self"] (defScope S_Exact___abs__) := ⟨rfl, rfl, rfl, by decide +kernel, rfl, by decide +kernel, by decide +kernel⟩
theorem nk_Exact___abs__ : NOk ["self"] 1 (defScope S_Exact___abs__) := ⟨sc_Exact___abs__.nd, by decide +kernel⟩
abbrev S_Exact___bool__ : Stmt := inClass (topS 17) 12
abbrev N_Exact___bool__ : List Str := ["self"]
theorem sc_Exact___bool__ : FnScope ["self"] ["self"] (defScope S_Exact___bool__) := ⟨rfl, rfl, rfl, by decide +kernel, rfl, by decide +kernel, by decide +kernel⟩
theorem nk_Exact___bool__ : NOk ["self"] 1 (defScope S_Exact___bool__) := ⟨sc_Exact___bool__.nd, by decide +kernel⟩
abbrev S_Exact___lshift__ : Stmt := inClass (topS 17) 13
abbrev N_Exact___lshift__ : List Str := ["self", "other"]
theorem sc_Exact___lshift__ : FnScope ["self", "other"] ["self", "other"] (defScope S_Exact___lshift__) := ⟨rfl, rfl, rfl, by decide +kernel, rfl, by decide +kernel, by decide +kernel⟩
theorem nk_Exact___lshift__ : NOk ["self", "other"] 2 (defScope S_Exact___lshift__) := ⟨sc_Exact___lshift__.nd, by decide +kernel⟩
abbrev S_Exact___rshift__ : Stmt := inClass (topS 17) 14
abbrev N_Exact___rshift__ : List Str := ["self", "other"]
theorem sc_Exact___rshift__ : FnScope ["self", "other"] ["self", "other"] (defScope S_Exact___rshift__) := ⟨rfl, rfl, rfl, by decide +kernel, rfl, by decide +kernel, by decide +kernel⟩
theorem nk_Exact___rshift__ : NOk ["self", "other"] 2 (defScope S_Exact___rshift__) := ⟨sc_Exact___rshift__.nd, by decide +kernel⟩
abbrev S_Exact___floordiv__ : Stmt := inClass (topS 17) 15
abbrev N_Exact___floordiv__ : List Str := ["self", "other"]
theorem sc_Exact___floordiv__ : FnScope ["self", "other"] ["self", "other"] (defScope S_Exact___floordiv__) := ⟨rfl, rfl, rfl, by decide +kernel, rfl, by decide +kernel, by decide +kernel⟩
theorem nk_Exact___floordiv__ : NOk ["self", "other"] 2 (defScope S_Exact___floordiv__) := ⟨sc_Exact___floordiv__.nd, by decide +kernel⟩
abbrev S_Exact___mod__ : Stmt := inClass (topS 17) 16
abbrev N_Exact___mod__ : List Str := ["self", "other", "right", "times", "product"]
theorem sc_Exact___mod__ : FnScope ["self", "other", "right", "times", "product"] ["self", "other"] (defScope S_Exact___mod__) := ⟨rfl, rfl, rfl, by decide +kernel, rfl, by decide +kernel, by decide +kernel⟩
theorem nk_Exact___mod__ : NOk ["self", "other", "right", "times", "product"] 5 (defScope S_Exact___mod__) := ⟨sc_Exact___mod__.nd, by decide +kernel⟩
abbrev S_Exact_raised : Stmt := inClass (topS 17) 17
abbrev N_Exact_raised : List Str := ["self", "times"]
theorem sc_Exact_raised : FnScope ["self", "times"] ["self", "times"] (defScope S_Exact_raised) := ⟨rfl, rfl, rfl, by decide +kernel, rfl, by decide +kernel, by decide +kernel⟩
theorem nk_Exact_raised : NOk ["self", "times"] 2 (defScope S_Exact_raised) := ⟨sc_Exact_raised.nd, by decide +kernel⟩
abbrev S_Exact___pow__ : Stmt := inClass (topS 17) 18
abbrev N_Exact___pow__ : List Str := ["self", "other"]
theorem sc_Exact___pow__ : FnScope ["self", "other"] ["self", "other"] (defScope S_Exact___pow__) := ⟨rfl, rfl, rfl, by decide +kernel, rfl, by decide +kernel, by decide +kernel⟩
theorem nk_Exact___pow__ : NOk ["self", "other"] 2 (defScope S_Exact___pow__) := ⟨sc_Exact___pow__.nd, by decide +kernel⟩
abbrev S_Exact___eq__ : Stmt := inClass (topS 17) 19
abbrev N_Exact___eq__ : List Str := ["self", "other"]
theorem sc_Exact___eq__ : FnScope ["self", "other"] ["self", "other"] (defScope S_Exact___eq__) := ⟨rfl, rfl, rfl, by decide +kernel, rfl, by decide +kernel, by decide +kernel⟩
theorem nk_Exact___eq__ : NOk ["self", "other"] 2 (defScope S_Exact___eq__) := ⟨sc_Exact___eq__.nd, by decide +kernel⟩
abbrev S_Exact___lt__ : Stmt := inClass (topS 17) 20
abbrev N_Exact___lt__ : List Str := ["self", "other"]
theorem sc_Exact___lt__ : FnScope ["self", "other"] ["self", "other"] (defScope S_Exact___lt__) := ⟨rfl, rfl, rfl, by decide +kernel, rfl, by decide +kernel, by decide +kernel⟩
theorem nk_Exact___lt__ : NOk ["self", "other"] 2 (defScope S_Exact___lt__) := ⟨sc_Exact___lt__.nd, by decide +kernel⟩
abbrev S_Exact___le__ : Stmt := inClass (topS 17) 21
abbrev N_Exact___le__ : List Str := ["self", "other"]
theorem sc_Exact___le__ : FnScope ["self", "other"] ["self", "other"] (defScope S_Exact___le__) := ⟨rfl, rfl, rfl, by decide +kernel, rfl, by decide +kernel, by decide +kernel⟩
theorem nk_Exact___le__ : NOk ["self", "other"] 2 (defScope S_Exact___le__) := ⟨sc_Exact___le__.nd, by decide +kernel⟩
abbrev S_Exact___gt__ : Stmt := inClass (topS 17) 22
abbrev N_Exact___gt__ : List Str := ["self", "other"]
theorem sc_Exact___gt__ : FnScope ["self", "other"] ["self", "other"] (defScope S_Exact___gt__) := ⟨rfl, rfl, rfl, by decide +kernel, rfl, by decide +kernel, by decide +kernel⟩
theorem nk_Exact___gt__ : NOk ["self", "other"] 2 (defScope S_Exact___gt__) := ⟨sc_Exact___gt__.nd, by decide +kernel⟩
abbrev S_Exact___ge__ : Stmt := inClass (topS 17) 23
abbrev N_Exact___ge__ : List Str := ["self", "other"]
theorem sc_Exact___ge__ : FnScope ["self", "other"] ["self", "other"] (defScope S_Exact___ge__) := ⟨rfl, rfl, rfl, by decide +kernel, rfl, by decide +kernel, by decide +kernel⟩
theorem nk_Exact___ge__ : NOk ["self", "other"] 2 (defScope S_Exact___ge__) := ⟨sc_Exact___ge__.nd, by decide +kernel⟩
abbrev S_taken : Stmt := topS 18
abbrev N_taken : List Str := ["value", "other"]
theorem sc_taken : FnScope ["value", "other"] ["value", "other"] (defScope S_taken) := ⟨rfl, rfl, rfl, by decide +kernel, rfl, by decide +kernel, by decide +kernel⟩
theorem nk_taken : NOk ["value", "other"] 2 (defScope S_taken) := ⟨sc_taken.nd, by decide +kernel⟩
abbrev S_aligned : Stmt := topS 19
abbrev N_aligned : List Str := ["left", "right", "more"]
theorem sc_aligned : FnScope ["left", "right", "more"] ["left", "right"] (defScope S_aligned) := ⟨rfl, rfl, rfl, by decide +kernel, rfl, by decide +kernel, by decide +kernel⟩
theorem nk_aligned : NOk ["left", "right", "more"] 3 (defScope S_aligned) := ⟨sc_aligned.nd, by decide +kernel⟩
abbrev S_combined : Stmt := topS 20
abbrev N_combined : List Str := ["left", "right", "sign", "first", "second", "exponent"]
theorem sc_combined : FnScope ["left", "right", "sign", "first", "second", "exponent"] ["left", "right", "sign"] (defScope S_combined) := ⟨rfl, rfl, rfl, by decide +kernel, rfl, by decide +kernel, by decide +kernel⟩
theorem nk_combined : NOk ["left", "right", "sign", "first", "second", "exponent"] 6 (defScope S_combined) := ⟨sc_combined.nd, by decide +kernel⟩
abbrev S_multiplied : Stmt := topS 21
abbrev N_multiplied : List Str := ["left", "right"]
theorem sc_multiplied : FnScope ["left", "right"] ["left", "right"] (defScope S_multiplied) := ⟨rfl, rfl, rfl, by decide +kernel, rfl, by decide +kernel, by decide +kernel⟩
theorem nk_multiplied : NOk ["left", "right"] 2 (defScope S_multiplied) := ⟨sc_multiplied.nd, by decide +kernel⟩
abbrev S_compared : Stmt := topS 22
abbrev N_compared : List Str := ["left", "right", "first", "second", "_"]
theorem sc_compared : FnScope ["left", "right", "first", "second", "_"] ["left", "right"] (defScope S_compared) := ⟨rfl, rfl, rfl, by decide +kernel, rfl, by decide +kernel, by decide +kernel⟩
theorem nk_compared : NOk ["left", "right", "first", "second", "_"] 5 (defScope S_compared) := ⟨sc_compared.nd, by decide +kernel⟩
abbrev S_quotient : Stmt := topS 23
abbrev N_quotient : List Str := ["left", "right", "first", "second", "_"]
theorem sc_quotient : FnScope ["left", "right", "first", "second", "_"] ["left", "right"] (defScope S_quotient) := ⟨rfl, rfl, rfl, by decide +kernel, rfl, by decide +kernel, by decide +kernel⟩
theorem nk_quotient : NOk ["left", "right", "first", "second", "_"] 5 (defScope S_quotient) := ⟨sc_quotient.nd, by decide +kernel⟩
abbrev S_Grid___init__ : Stmt := inClass (topS 25) 2
abbrev N_Grid___init__ : List Str := ["self", "base", "precision", "bottom", "top"]
theorem sc_Grid___init__ : FnScope ["self", "base", "precision", "bottom", "top"] ["self", "base", "precision", "bottom", "top"] (defScope S_Grid___init__) := ⟨rfl, rfl, rfl, by decide +kernel, rfl, by decide +kernel, by decide +kernel⟩
theorem nk_Grid___init__ : NOk ["self", "base", "precision", "bottom", "top"] 5 (defScope S_Grid___init__) := ⟨sc_Grid___init__.nd, by decide +kernel⟩
abbrev S_Grid_binary : Stmt := inClass (topS 25) 3
abbrev N_Grid_binary : List Str := ["cls", "precision"]
theorem sc_Grid_binary : FnScope ["cls", "precision"] ["cls", "precision"] (defScope S_Grid_binary) := ⟨rfl, rfl, rfl, by decide +kernel, rfl, by decide +kernel, by decide +kernel⟩
theorem nk_Grid_binary : NOk ["cls", "precision"] 2 (defScope S_Grid_binary) := ⟨sc_Grid_binary.nd, by decide +kernel⟩
abbrev S_Grid_decimal : Stmt := inClass (topS 25) 4
abbrev N_Grid_decimal : List Str := ["cls", "precision"]
theorem sc_Grid_decimal : FnScope ["cls", "precision"] ["cls", "precision"] (defScope S_Grid_decimal) := ⟨rfl, rfl, rfl, by decide +kernel, rfl, by decide +kernel, by decide +kernel⟩
theorem nk_Grid_decimal : NOk ["cls", "precision"] 2 (defScope S_Grid_decimal) := ⟨sc_Grid_decimal.nd, by decide +kernel⟩
abbrev S_Grid_greatest : Stmt := inClass (topS 25) 5
abbrev N_Grid_greatest : List Str := ["self"]
theorem sc_Grid_greatest : FnScope ["self"] ["self"] (defScope S_Grid_greatest) := ⟨rfl, rfl, rfl, by decide +kernel, rfl, by decide +kernel, by decide +kernel⟩
theorem nk_Grid_greatest : NOk ["self"] 1 (defScope S_Grid_greatest) := ⟨sc_Grid_greatest.nd, by decide +kernel⟩
abbrev S_Grid___eq__ : Stmt := inClass (topS 25) 6
abbrev N_Grid___eq__ : List Str := ["self", "other"]
theorem sc_Grid___eq__ : FnScope ["self", "other"] ["self", "other"] (defScope S_Grid___eq__) := ⟨rfl, rfl, rfl, by decide +kernel, rfl, by decide +kernel, by decide +kernel⟩
theorem nk_Grid___eq__ : NOk ["self", "other"] 2 (defScope S_Grid___eq__) := ⟨sc_Grid___eq__.nd, by decide +kernel⟩
abbrev S_Grid___contains__ : Stmt := inClass (topS 25) 7
abbrev N_Grid___contains__ : List Str := ["self", "value"]
theorem sc_Grid___contains__ : FnScope ["self", "value"] ["self", "value"] (defScope S_Grid___contains__) := ⟨rfl, rfl, rfl, by decide +kernel, rfl, by decide +kernel, by decide +kernel⟩
theorem nk_Grid___contains__ : NOk ["self", "value"] 2 (defScope S_Grid___contains__) := ⟨sc_Grid___contains__.nd, by decide +kernel⟩
abbrev S_Grid_unit : Stmt := inClass (topS 25) 8
abbrev N_Grid_unit : List Str := ["self", "value", "last"]
theorem sc_Grid_unit : FnScope ["self", "value", "last"] ["self", "value"] (defScope S_Grid_unit) := ⟨rfl, rfl, rfl, by decide +kernel, rfl, by decide +kernel, by decide +kernel⟩
theorem nk_Grid_unit : NOk ["self", "value", "last"] 3 (defScope S_Grid_unit) := ⟨sc_Grid_unit.nd, by decide +kernel⟩
abbrev S_Grid_rounded : Stmt := inClass (topS 25) 9
abbrev N_Grid_rounded : List Str := ["self", "value", "mode"]
theorem sc_Grid_rounded : FnScope ["self", "value", "mode"] ["self", "value", "mode"] (defScope S_Grid_rounded) := ⟨rfl, rfl, rfl, by decide +kernel, rfl, by decide +kernel, by decide +kernel⟩
theorem nk_Grid_rounded : NOk ["self", "value", "mode"] 3 (defScope S_Grid_rounded) := ⟨sc_Grid_rounded.nd, by decide +kernel⟩
abbrev S_Grid_loss_of : Stmt := inClass (topS 25) 10
abbrev N_Grid_loss_of : List Str := ["self", "value", "mode"]
theorem sc_Grid_loss_of : FnScope ["self", "value", "mode"] ["self", "value", "mode"] (defScope S_Grid_loss_of) := ⟨rfl, rfl, rfl, by decide +kernel, rfl, by decide +kernel, by decide +kernel⟩
theorem nk_Grid_loss_of : NOk ["self", "value", "mode"] 3 (defScope S_Grid_loss_of) := ⟨sc_Grid_loss_of.nd, by decide +kernel⟩
abbrev S_Grid_neighbours : Stmt := inClass (topS 25) 11
abbrev N_Grid_neighbours : List Str := ["self", "value"]
theorem sc_Grid_neighbours : FnScope ["self", "value"] ["self", "value"] (defScope S_Grid_neighbours) := ⟨rfl, rfl, rfl, by decide +kernel, rfl, by decide +kernel, by decide +kernel⟩
theorem nk_Grid_neighbours : NOk ["self", "value"] 2 (defScope S_Grid_neighbours) := ⟨sc_Grid_neighbours.nd, by decide +kernel⟩
abbrev S_Grid_rising : Stmt := inClass (topS 25) 12
abbrev N_Grid_rising : List Str := ["self", "start", "count"]
theorem sc_Grid_rising : FnScope ["self", "start", "count"] ["self", "start", "count"] (defScope S_Grid_rising) := ⟨rfl, rfl, rfl, by decide +kernel, rfl, by decide +kernel, by decide +kernel⟩
theorem nk_Grid_rising : NOk ["self", "start", "count"] 3 (defScope S_Grid_rising) := ⟨sc_Grid_rising.nd, by decide +kernel⟩
abbrev S_check_same_base : Stmt := topS 26
abbrev N_check_same_base : List Str := ["grid", "value"]
theorem sc_check_same_base : FnScope ["grid", "value"] ["grid", "value"] (defScope S_check_same_base) := ⟨rfl, rfl, rfl, by decide +kernel, rfl, by decide +kernel, by decide +kernel⟩
theorem nk_check_same_base : NOk ["grid", "value"] 2 (defScope S_check_same_base) := ⟨sc_check_same_base.nd, by decide +kernel⟩
abbrev S_check_number : Stmt := topS 27
abbrev N_check_number : List Str := ["grid", "value"]
theorem sc_check_number : FnScope ["grid", "value"] ["grid", "value"] (defScope S_check_number) := ⟨rfl, rfl, rfl, by decide +kernel, rfl, by decide +kernel, by decide +kernel⟩
theorem nk_check_number : NOk ["grid", "value"] 2 (defScope S_check_number) := ⟨sc_check_number.nd, by decide +kernel⟩
abbrev S_beyond : Stmt := topS 28
abbrev N_beyond : List Str := ["grid", "value"]
theorem sc_beyond : FnScope ["grid", "value"] ["grid", "value"] (defScope S_beyond) := ⟨rfl, rfl, rfl, by decide +kernel, rfl, by decide +kernel, by decide +kernel⟩
theorem nk_beyond : NOk ["grid", "value"] 2 (defScope S_beyond) := ⟨sc_beyond.nd, by decide +kernel⟩
abbrev S_check_bottom : Stmt := topS 30
abbrev N_check_bottom : List Str := ["grid"]
theorem sc_check_bottom : FnScope ["grid"] ["grid"] (defScope S_check_bottom) := ⟨rfl, rfl, rfl, by decide +kernel, rfl, by decide +kernel, by decide +kernel⟩
theorem nk_check_bottom : NOk ["grid"] 1 (defScope S_check_bottom) := ⟨sc_check_bottom.nd, by decide +kernel⟩
abbrev S_numbers_in_place : Stmt := topS 31
abbrev N_numbers_in_place : List Str := ["grid"]
theorem sc_numbers_in_place : FnScope ["grid"] ["grid"] (defScope S_numbers_in_place) := ⟨rfl, rfl, rfl, by decide +kernel, rfl, by decide +kernel, by decide +kernel⟩
theorem nk_numbers_in_place : NOk ["grid"] 1 (defScope S_numbers_in_place) := ⟨sc_numbers_in_place.nd, by decide +kernel⟩
abbrev S_rank_of : Stmt := topS 32
abbrev N_rank_of : List Str := ["grid", "value", "last", "whole"]
theorem sc_rank_of : FnScope ["grid", "value", "last", "whole"] ["grid", "value"] (defScope S_rank_of) := ⟨rfl, rfl, rfl, by decide +kernel, rfl, by decide +kernel, by decide +kernel⟩
theorem nk_rank_of : NOk ["grid", "value", "last", "whole"] 4 (defScope S_rank_of) := ⟨sc_rank_of.nd, by decide +kernel⟩
abbrev S_number_at : Stmt := topS 33
abbrev N_number_at : List Str := ["grid", "rank", "size", "least", "above", "whole", "value"]
theorem sc_number_at : FnScope ["grid", "rank", "size", "least", "above", "whole", "value"] ["grid", "rank"] (defScope S_number_at) := ⟨rfl, rfl, rfl, by decide +kernel, rfl, by decide +kernel, by decide +kernel⟩
theorem nk_number_at : NOk ["grid", "rank", "size", "least", "above", "whole", "value"] 7 (defScope S_number_at) := ⟨sc_number_at.nd, by decide +kernel⟩
abbrev S__law_source : Stmt := topS 35
abbrev N__law_source : List Str := ["script", "cell"]
theorem sc__law_source : FnScope ["script", "cell"] ["script"] (defScope S__law_source) := ⟨rfl, rfl, rfl, by decide +kernel, rfl, by decide +kernel, by decide +kernel⟩
theorem nk__law_source : NOk ["script", "cell"] 1 (defScope S__law_source) := ⟨sc__law_source.nd, by decide +kernel⟩
abbrev S__law_draw : Stmt := topS 36
abbrev N__law_draw : List Str := ["source", "many", "cell", "size", "value", "mixed"]
theorem sc__law_draw : FnScope ["source", "many", "cell", "size", "value", "mixed"] ["source", "many"] (defScope S__law_draw) := ⟨rfl, rfl, rfl, by decide +kernel, rfl, by decide +kernel, by decide +kernel⟩
theorem nk__law_draw : NOk ["source", "many", "cell", "size", "value", "mixed"] 6 (defScope S__law_draw) := ⟨sc__law_draw.nd, by decide +kernel⟩
abbrev S__law_base : Stmt := topS 37
abbrev N__law_base : List Str := ["source", "kind"]
theorem sc__law_base : FnScope ["source", "kind"] ["source"] (defScope S__law_base) := ⟨rfl, rfl, rfl, by decide +kernel, rfl, by decide +kernel, by decide +kernel⟩
theorem nk__law_base : NOk ["source", "kind"] 2 (defScope S__law_base) := ⟨sc__law_base.nd, by decide +kernel⟩
abbrev S__law_precision : Stmt := topS 38
abbrev N__law_precision : List Str := ["source", "most"]
theorem sc__law_precision : FnScope ["source", "most"] ["source", "most"] (defScope S__law_precision) := ⟨rfl, rfl, rfl, by decide +kernel, rfl, by decide +kernel, by decide +kernel⟩
theorem nk__law_precision : NOk ["source", "most"] 2 (defScope S__law_precision) := ⟨sc__law_precision.nd, by decide +kernel⟩
abbrev S__law_power : Stmt := topS 39
abbrev N__law_power : List Str := ["base", "count", "result", "k"]
theorem sc__law_power : FnScope ["base", "count", "result", "k"] ["base", "count"] (defScope S__law_power) := ⟨rfl, rfl, rfl, by decide +kernel, rfl, by decide +kernel, by decide +kernel⟩
theorem nk__law_power : NOk ["base", "count", "result", "k"] 4 (defScope S__law_power) := ⟨sc__law_power.nd, by decide +kernel⟩
abbrev S__law_lowest : Stmt := topS 40
abbrev N__law_lowest : List Str := ["base", "coefficient", "exponent", "rest", "count", "chunk"]
theorem sc__law_lowest : FnScope ["base", "coefficient", "exponent", "rest", "count", "chunk"] ["base", "coefficient", "exponent"] (defScope S__law_lowest) := ⟨rfl, rfl, rfl, by decide +kernel, rfl, by decide +kernel, by decide +kernel⟩
theorem nk__law_lowest : NOk ["base", "coefficient", "exponent", "rest", "count", "chunk"] 6 (defScope S__law_lowest) := ⟨sc__law_lowest.nd, by decide +kernel⟩
abbrev S__law_full : Stmt := topS 41
abbrev N__law_full : List Str := ["source", "base", "precision", "least", "kind", "result", "k"]
theorem sc__law_full : FnScope ["source", "base", "precision", "least", "kind", "result", "k"] ["source", "base", "precision"] (defScope S__law_full) := ⟨rfl, rfl, rfl, by decide +kernel, rfl, by decide +kernel, by decide +kernel⟩
theorem nk__law_full : NOk ["source", "base", "precision", "least", "kind", "result", "k"] 7 (defScope S__law_full) := ⟨sc__law_full.nd, by decide +kernel⟩
abbrev S__law_small : Stmt := topS 42
abbrev N__law_small : List Str := ["source", "size"]
theorem sc__law_small : FnScope ["source", "size"] ["source"] (defScope S__law_small) := ⟨rfl, rfl, rfl, by decide +kernel, rfl, by decide +kernel, by decide +kernel⟩
theorem nk__law_small : NOk ["source", "size"] 2 (defScope S__law_small) := ⟨sc__law_small.nd, by decide +kernel⟩
abbrev S__law_equal : Stmt := topS 43
abbrev N__law_equal : List Str := ["actual", "expected", "k"]
theorem sc__law_equal : FnScope ["actual", "expected", "k"] ["actual", "expected"] (defScope S__law_equal) := ⟨rfl, rfl, rfl, by decide +kernel, rfl, by decide +kernel, by decide +kernel⟩
theorem nk__law_equal : NOk ["actual", "expected", "k"] 3 (defScope S__law_equal) := ⟨sc__law_equal.nd, by decide +kernel⟩
abbrev S__law_make : Stmt := topS 44
abbrev N__law_make : List Str := ["base", "x"]
theorem sc__law_make : FnScope ["base", "x"] ["base", "x"] (defScope S__law_make) := ⟨rfl, rfl, rfl, by decide +kernel, rfl, by decide +kernel, by decide +kernel⟩
theorem nk__law_make : NOk ["base", "x"] 2 (defScope S__law_make) := ⟨sc__law_make.nd, by decide +kernel⟩
abbrev S__law_is : Stmt := topS 45
abbrev N__law_is : List Str := ["value", "base", "x", "low"]
theorem sc__law_is : FnScope ["value", "base", "x", "low"] ["value", "base", "x"] (defScope S__law_is) := ⟨rfl, rfl, rfl, by decide +kernel, rfl, by decide +kernel, by decide +kernel⟩
theorem nk__law_is : NOk ["value", "base", "x", "low"] 4 (defScope S__law_is) := ⟨sc__law_is.nd, by decide +kernel⟩
abbrev S__law_other_base : Stmt := topS 46
abbrev N__law_other_base : List Str := ["source", "base"]
theorem sc__law_other_base : FnScope ["source", "base"] ["source", "base"] (defScope S__law_other_base) := ⟨rfl, rfl, rfl, by decide +kernel, rfl, by decide +kernel, by decide +kernel⟩
theorem nk__law_other_base : NOk ["source", "base"] 2 (defScope S__law_other_base) := ⟨sc__law_other_base.nd, by decide +kernel⟩
abbrev S__law_above : Stmt := topS 47
abbrev N__law_above : List Str := ["source", "room", "kind", "above"]
theorem sc__law_above : FnScope ["source", "room", "kind", "above"] ["source", "room"] (defScope S__law_above) := ⟨rfl, rfl, rfl, by decide +kernel, rfl, by decide +kernel, by decide +kernel⟩
theorem nk__law_above : NOk ["source", "room", "kind", "above"] 4 (defScope S__law_above) := ⟨sc__law_above.nd, by decide +kernel⟩
abbrev S__law_whole : Stmt := topS 48
abbrev N__law_whole : List Str := ["source", "base", "precision", "above", "digits"]
theorem sc__law_whole : FnScope ["source", "base", "precision", "above", "digits"] ["source", "base", "precision", "above"] (defScope S__law_whole) := ⟨rfl, rfl, rfl, by decide +kernel, rfl, by decide +kernel, by decide +kernel⟩
theorem nk__law_whole : NOk ["source", "base", "precision", "above", "digits"] 5 (defScope S__law_whole) := ⟨sc__law_whole.nd, by decide +kernel⟩
abbrev S__law_error : Stmt := topS 49
abbrev N__law_error : List Str := ["e", "kinds"]
theorem sc__law_error : FnScope ["e", "kinds"] ["e"] (defScope S__law_error) := ⟨rfl, rfl, rfl, by decide +kernel, rfl, by decide +kernel, by decide +kernel⟩
theorem nk__law_error : NOk ["e", "kinds"] 2 (defScope S__law_error) := ⟨sc__law_error.nd, by decide +kernel⟩
abbrev S__law_told_rank : Stmt := topS 50
abbrev N__law_told_rank : List Str := ["grid", "value", "e"]
theorem sc__law_told_rank : FnScope ["grid", "value", "e"] ["grid", "value"] (defScope S__law_told_rank) := ⟨rfl, rfl, rfl, by decide +kernel, rfl, by decide +kernel, by decide +kernel⟩
theorem nk__law_told_rank : NOk ["grid", "value", "e"] 3 (defScope S__law_told_rank) := ⟨sc__law_told_rank.nd, by decide +kernel⟩
abbrev S__law_no_number : Stmt := topS 51
abbrev N__law_no_number : List Str := ["grid", "rank", "e"]
theorem sc__law_no_number : FnScope ["grid", "rank", "e"] ["grid", "rank"] (defScope S__law_no_number) := ⟨rfl, rfl, rfl, by decide +kernel, rfl, by decide +kernel, by decide +kernel⟩
theorem nk__law_no_number : NOk ["grid", "rank", "e"] 3 (defScope S__law_no_number) := ⟨sc__law_no_number.nd, by decide +kernel⟩
abbrev S__law_both_ways : Stmt := topS 52
abbrev N__law_both_ways : List Str := ["grid", "base", "x", "rank"]
theorem sc__law_both_ways : FnScope ["grid", "base", "x", "rank"] ["grid", "base", "x", "rank"] (defScope S__law_both_ways) := ⟨rfl, rfl, rfl, by decide +kernel, rfl, by decide +kernel, by decide +kernel⟩
theorem nk__law_both_ways : NOk ["grid", "base", "x", "rank"] 4 (defScope S__law_both_ways) := ⟨sc__law_both_ways.nd, by decide +kernel⟩
abbrev S__law_ranks_right : Stmt := topS 53
abbrev N__law_ranks_right : List Str := ["grid", "base", "bottom", "whole", "above", "each", "rank"]
theorem sc__law_ranks_right : FnScope ["grid", "base", "bottom", "whole", "above", "each", "rank"] ["grid", "base", "bottom", "whole", "above", "each"] (defScope S__law_ranks_right) := ⟨rfl, rfl, rfl, by decide +kernel, rfl, by decide +kernel, by decide +kernel⟩
theorem nk__law_ranks_right : NOk ["grid", "base", "bottom", "whole", "above", "each", "rank"] 7 (defScope S__law_ranks_right) := ⟨sc__law_ranks_right.nd, by decide +kernel⟩
abbrev S__law_refused_right : Stmt := topS 54
abbrev N__law_refused_right : List Str := ["source", "grid", "base", "precision", "bottom", "room", "other", "strange", "one", "free", "high", "rank", "bad", "value", "long", "low", "wrong", "x"]
theorem sc__law_refused_right : FnScope ["source", "grid", "base", "precision", "bottom", "room", "other", "strange", "one", "free", "high", "rank", "bad", "value", "long", "low", "wrong", "x"] ["source", "grid", "base", "precision", "bottom", "room"] (defScope S__law_refused_right) := ⟨rfl, rfl, rfl, by decide +kernel, rfl, by decide +kernel, by decide +kernel⟩
theorem nk__law_refused_right : NOk ["source", "grid", "base", "precision", "bottom", "room", "other", "strange", "one", "free", "high", "rank", "bad", "value", "long", "low", "wrong", "x"] 18 (defScope S__law_refused_right) := ⟨sc__law_refused_right.nd, by decide +kernel⟩
abbrev S__law_beyond_right : Stmt := topS 55
abbrev N__law_beyond_right : List Str := ["source", "grid", "greatest", "more", "rank"]
theorem sc__law_beyond_right : FnScope ["source", "grid", "greatest", "more", "rank"] ["source", "grid", "greatest"] (defScope S__law_beyond_right) := ⟨rfl, rfl, rfl, by decide +kernel, rfl, by decide +kernel, by decide +kernel⟩
theorem nk__law_beyond_right : NOk ["source", "grid", "greatest", "more", "rank"] 5 (defScope S__law_beyond_right) := ⟨sc__law_beyond_right.nd, by decide +kernel⟩
abbrev S_law : Stmt := topS 56
abbrev N_law : List Str := ["script", "source", "base", "precision", "bottom", "room", "grid", "each", "most", "k", "above", "whole"]
theorem sc_law : FnScope ["script", "source", "base", "precision", "bottom", "room", "grid", "each", "most", "k", "above", "whole"] ["script"] (defScope S_law) := ⟨rfl, rfl, rfl, by decide +kernel, rfl, by decide +kernel, by decide +kernel⟩
theorem nk_law : NOk ["script", "source", "base", "precision", "bottom", "room", "grid", "each", "most", "k", "above", "whole"] 12 (defScope S_law) := ⟨sc_law.nd, by decide +kernel⟩
theorem ok_source {f : Addr} {fd : FuncData} (F : Fun K "_law_source" "_law_source" S__law_source f fd) (B : Blt mg) : FnOk P w K mg base (L2N.CX P w) 1 f fd ["script"] (spSrc K) := by
  have S := nk__law_source
  refine src_hide (F.okN sc__law_source (fun vs H Q E h => ?_) (fun cdv A outer s H vs Q E hr h => ?_)) (fun outer H s E e s' z => cxn_no z)
  · obtain ⟨a, ns, rfl, _⟩ := h; rfl
  · obtain ⟨a, ns, rfl, hs, hl, hQ⟩ := h
    show ZSs _ _ _ _ _ _ [some (.ref a), none] H
    refine zss_one (zs_ret (ze_lst ?_))
    fail "za"
    refine ze_lcL (own := [("cell", 1)]) rfl sc__law_source.nd (blkOk_by (show blkC ["script", "cell"] (defScope S__law_source) _ _ = true by decide +kernel)) ?_
    fail "z"
    refine ⟨a, _, rfl, hs, fun D hD => ⟨fun i H' => i ≤ ns.length ∧ H' = upd H D (.lst ((ns.map V.int).take i)), ⟨Nat.zero_le _, by simp⟩, fun i H' _ h => ?_, fun i x H' hx h => ?_, fun H' h => ?_⟩⟩
    · obtain ⟨_, rfl⟩ := h
      exact Same.seq (Same.new (Same.refl _) hD) hs
    · obtain ⟨hi, rfl⟩ := h
      obtain ⟨c, hc, rfl⟩ := map_get hx
      have hlt : i < ns.length := (List.getElem?_eq_some_iff.mp hc).1
      refine fun s1 H1 C cl fp => zg_name 1 sc__law_source.nd rfl ?_ (.inl rfl) (.inr rfl)
      refine ⟨rfl, fun s1 H1 C cl fp => ?_⟩
      refine zc_int B ?_
      refine za_cons (ze_var 1 rfl rfl (za_nil ?_))
      refine cw_int ?_
      refine ⟨_, upd_same, by rw [List.length_take, List.length_map]; have : ns.length ≤ 1000 := hl; have : sizeLine = 16777216 := sizeLine_eq; omega, by omega, ?_⟩
      rw [upd_upd, List.take_succ, hx]
      rfl
    · obtain ⟨_, rfl⟩ := h
      fail "za"
      rename_i p hp
      have np : p ≠ D := upd_no_ne hp.e
      refine hQ p D _ (upd_no hp.e) hD (Same.new (Same.new (Same.refl _) hD) hp.e) np upd_same ?_
      rw [upd_ne np.symm, upd_same, List.take_of_length_le (by rw [List.length_map]; exact Nat.le_refl _)]

theorem ok_draw {f : Addr} {fd : FuncData} (F : Fun K "_law_draw" "_law_draw" S__law_draw f fd) (B : Blt mg) : FnOk P w K mg base (L2N.CX P w) 1 f fd ["source", "many"] spDraw := by
  have S := nk__law_draw
  refine draw_hide (F.okN sc__law_draw (fun vs H Q E h => ?_) (fun cdv A outer s H vs Q E hr h => ?_)) (fun outer H s E e s' z => cxn_no z)
  · obtain ⟨p, q, many, i, x1, x2, x3, ns, rfl, _⟩ := h; rfl
  · obtain ⟨p, q, many, i, x1, x2, x3, ns, rfl, hm, hm2, hp, hi, hq, hl, hQ⟩ := h
    unfold srcL at hp hQ
    have npq : q ≠ p := fun e => by
      rw [e, hp] at hq
      have z := HO.lst.inj (Option.some.inj hq)
      have z2 := congrArg (fun l : List V => l[4]?) z
      simp only [List.getElem?_map] at z2
      cases e4 : ns[4]? <;> rw [e4] at z2 <;> simp at z2
    have fin : ∀ (H' : Hp) (v i' x1' x2' x3' : Int), H' = upd H p (.lst [.int i', .int x1', .int x2', .int x3', .ref q]) → 0 ≤ i' → Q (.int (v % many)) H' := fun H' v i' x1' x2' x3' e h => by
      rw [e]; exact hQ _ _ _ _ _ (Int.emod_nonneg _ (by omega)) (Int.emod_lt_of_pos _ hm) h
    show ZSs _ _ _ _ _ _ [some (.ref p), some (.int many), none, none, none, none] H
    refine zss_cons ?_
    fail "za"
    · have := hQ 0 i x1 x2 x3 (Int.le_refl _) hm hi
      rwa [upd_id hp] at this
    · rename_i h1 h2 h3
      obtain ⟨v, hv, hv2⟩ := atI_lt hi (show i < (ns.map V.int).length by omega)
      obtain ⟨c, hc, rfl⟩ := map_get hv
      refine xw_lst (SqL.of hq) hv2 ?_
      fail "za"
      all_goals exact fin _ _ _ _ _ _ (by simp only [upd_upd]; rfl) (by omega)
    all_goals exact fin _ _ _ _ _ _ (by first | rfl | (simp only [upd_upd]; rfl)) (by omega)

local macro_rules | `(tactic| fail "zty") => `(tactic| first | exact TyX.ofL (by assumption) | exact TyX.ofT (by assumption))
theorem ok_equal {f : Addr} {fd : FuncData} (F : Fun K "_law_equal" "_law_equal" S__law_equal f fd) (B : Blt mg) (gm : mg "_law_equal" = some (.ref f)) (kp : PySem.W.keepIn K (.ref f) = true) (hb : Binds K fd ["actual", "expected"] []) :
    ∀ n, FnOk P w K mg base (L2N.CX P w) (n + 1) f fd ["actual", "expected"] (spEq K n) := by
  have S := nk__law_equal
  intro n
  induction n with
  | zero =>
    refine F.okN sc__law_equal (fun vs H Q E h => ?_) (fun cdv A outer s H vs Q E hr h => ?_)
    · obtain ⟨x, y, rfl, _⟩ := h; rfl
    · obtain ⟨x, y, rfl, hd, hQ⟩ := h
      cases hd
      all_goals
        show ZSs _ _ _ _ _ _ [some _, some _, none] H
        fail "z0"
        all_goals first | (simp; exact hQ) | (simp_all; done)
  | succ n ih =>
    have c : Cal P w K mg base (n + 1) "_law_equal" (spEq K n) := ⟨f, fd, _, [], [], _, ih, gm, kp, hb, .nil, fun vs H Q E h => by rw [List.append_nil]; exact h⟩
    refine F.okN sc__law_equal (fun vs H Q E h => ?_) (fun cdv A outer s H vs Q E hr h => ?_)
    · obtain ⟨x, y, rfl, _⟩ := h; rfl
    · obtain ⟨x, y, rfl, hd, hQ⟩ := h
      cases hd with
      | non | bl | int | str =>
        show ZSs _ _ _ _ _ _ [some _, some _, none] H
        fail "z0"
        all_goals first | (simp; exact hQ) | (simp_all; done)
      | lst hx hy hz hl hh =>
        rename_i p q xs ys
        show ZSs _ _ _ _ _ _ [some _, some _, none] H
        fail "z0"
        all_goals try (exfalso; omega)
        refine zs_forR pass_def rfl B.range ?_
        fail "zz"
        rw [sizeLine_eq] at hz
        refine ⟨by omega, by omega, fun i σ H' => ∃ o, σ = [some (.ref p), some (.ref q), o] ∧ H' = H, ⟨_, rfl, rfl⟩, ?_, ?_⟩
        · rintro i σ H' hi ⟨o, rfl, rfl⟩
          have hi1 : i < xs.length := by omega
          have hi2 : i < ys.length := by omega
          fail "zz"
          refine xw_lst hx (atI_nat (List.getElem?_eq_getElem hi1)) ?_
          fail "zz"
          refine xw_lst hy (atI_nat (List.getElem?_eq_getElem hi2)) ?_
          fail "zz"
          refine equal_do (hh i _ _ (List.getElem?_eq_getElem hi1) (List.getElem?_eq_getElem hi2)) ?_
          fail "za"
          rfl
        · rintro σ H' ⟨o, rfl, rfl⟩
          fail "zz"
          exact hQ
      | tup hx hy hz hl hh =>
        rename_i p q xs ys
        show ZSs _ _ _ _ _ _ [some _, some _, none] H
        fail "z0"
        all_goals try (exfalso; omega)
        refine zs_forR pass_def rfl B.range ?_
        fail "zz"
        rw [sizeLine_eq] at hz
        refine ⟨by omega, by omega, fun i σ H' => ∃ o, σ = [some (.ref p), some (.ref q), o] ∧ H' = H, ⟨_, rfl, rfl⟩, ?_, ?_⟩
        · rintro i σ H' hi ⟨o, rfl, rfl⟩
          have hi1 : i < xs.length := by omega
          have hi2 : i < ys.length := by omega
          fail "zz"
          refine xw_tup hx (atI_nat (List.getElem?_eq_getElem hi1)) ?_
          fail "zz"
          refine xw_tup hy (atI_nat (List.getElem?_eq_getElem hi2)) ?_
          fail "zz"
          refine equal_do (hh i _ _ (List.getElem?_eq_getElem hi1) (List.getElem?_eq_getElem hi2)) ?_
          fail "za"
          rfl
        · rintro σ H' ⟨o, rfl, rfl⟩
          fail "zz"
          exact hQ
/-- the same of plain data, within an except suite -/
theorem ok_equalH {f : Addr} {fd : FuncData} (F : Fun K "_law_equal" "_law_equal" S__law_equal f fd) (B : Blt mg) : L2H.FnH P w K mg base (L2N.CX P w) 1 f fd ["actual", "expected"] spEqS := by
  have S := nk__law_equal
  refine FunH.ok F sc__law_equal (fun vs H Q E h => ?_) (fun cdv A outer s H vs Q E p hot hr h => ?_)
  · obtain ⟨x, rfl, _⟩ := h; rfl
  · obtain ⟨x, rfl, hd, hQ⟩ := h
    cases hd
    all_goals
      show ZSs _ _ _ _ _ _ [some _, some _, none] H
      refine zss_cons ?_
      fail "za"
      all_goals first | (simp; exact hQ) | (simp_all; done)

def spBase : Sp := fun vs H Q _ => ∃ p, vs = [.ref p] ∧ Src H p ∧ ∀ b H', 2 ≤ b → b ≤ 36 → Same H H' → Q (.int b) H'
theorem base_do {p : Addr} {H : Hp} {Q : VK} {E : XK} (h3 : Src H p) (h : ∀ b H', 2 ≤ b → b ≤ 36 → Same H H' → Q (.int b) H') : spBase [.ref p] H Q E := ⟨p, rfl, h3, h⟩
local macro_rules | `(tactic| fail "zP") => `(tactic| (with_reducible refine' base_do ?h3 (fun _ _ _ _ _ => ?h)); (case h3 => fail "zsrc"))
theorem ok_base {f : Addr} {fd : FuncData} (F : Fun K "_law_base" "_law_base" S__law_base f fd) (c1 : Cal P w K mg base 1 "_law_draw" spDraw) : FnOk P w K mg base (L2N.CX P w) 2 f fd ["source"] spBase := by
  have S := nk__law_base
  refine F.okN sc__law_base (fun vs H Q E h => ?_) (fun cdv A outer s H vs Q E hr h => ?_)
  · obtain ⟨p, rfl, _⟩ := h; rfl
  · obtain ⟨p, rfl, hs, hQ⟩ := h
    show ZSs _ _ _ _ _ _ [some (.ref p), none] H
    fail "z0"
    · exact hQ _ _ (by omega) (by omega) (by fail "zsm")
    · exact hQ _ _ (by omega) (by omega) (by fail "zsm")
    · rename_i v v0 v9
      refine xw_lstP (P := fun v => ∃ i, v = .int i ∧ 2 ≤ i ∧ i ≤ 36) (SqL.of (xs := [.int 10, .int 16, .int 2, .int 3, .int 36]) (by fail "zh")) v0 v9 ?_ ?_
      · exact All.cons ⟨_, rfl, by decide, by decide⟩ (All.cons ⟨_, rfl, by decide, by decide⟩ (All.cons ⟨_, rfl, by decide, by decide⟩ (All.cons ⟨_, rfl, by decide, by decide⟩ (All.cons ⟨_, rfl, by decide, by decide⟩ All.nil))))
      · rintro v ⟨i, rfl, h1, h2⟩
        exact hQ _ _ h1 h2 (by fail "zsm")

def spCB (C : Addr) : Sp := fun vs H Q E => ∃ b : Int, vs = [.int b] ∧ (2 ≤ b ∧ b ≤ 36 → Q .non H) ∧ (¬ (2 ≤ b ∧ b ≤ 36) → ∀ d, H d = none → E (.ref C) (some d) (upd H d (.xd [("base", .int b)])))
theorem cb_do {C : Addr} {b : Int} {H : Hp} {Q : VK} {E : XK} (h : 2 ≤ b ∧ b ≤ 36 → Q .non H) (h2 : ¬ (2 ≤ b ∧ b ≤ 36) → ∀ d, NoA H d → E (.ref C) (some d) (upd H d (.xd [("base", .int b)]))) : spCB C [.int b] H Q E := ⟨b, rfl, h, fun hz d n => h2 hz d ⟨n⟩⟩
local macro_rules | `(tactic| fail "zP") => `(tactic| (with_reducible refine cb_do (fun _ => ?_) (fun _ _ _ => ?_)))
theorem ok_cb {f C : Addr} {fd : FuncData} (F : Fun K "check_base" "check_base" S_check_base f fd) (cB : XCls P K mg "BadBase" C ["base"]) : FnOk P w K mg base (L2N.CX P w) 2 f fd ["base"] (spCB C) := by
  have S := nk_check_base
  refine F.okN sc_check_base (fun vs H Q E h => ?_) (fun cdv A outer s H vs Q E hr h => ?_)
  · obtain ⟨z, rfl, _⟩ := h; rfl
  · obtain ⟨b, rfl, h1, h2⟩ := h
    show ZSs _ _ _ _ _ _ [some (.int b)] H
    fail "z0"
    all_goals first
      | exact h1 ⟨by assumption, by assumption⟩
      | exact h2 (fun h => absurd h.1 (by assumption)) _ (by fail "zno")
      | exact h2 (fun h => absurd h.2 (by assumption)) _ (by fail "zno")

def spPow : Sp := fun vs H Q _ => ∃ (b : Int) (n t : Nat), vs = [.int b, .int n] ∧ Bd t b ∧ t * n + t + n < 400000 ∧ Q (.int (b ^ n)) H
theorem pow_do {b : Int} {n t : Nat} {H : Hp} {Q : VK} {E : XK} (h : Bd t b) (h2 : t * n + t + n < 400000) (q : Q (.int (b ^ n)) H) : spPow [.int b, .int n] H Q E := ⟨b, n, t, rfl, h, h2, q⟩
theorem ok_pow {f : Addr} {fd : FuncData} (F : Fun K "power" "power" S_power f fd) : FnOk P w K mg base (L2N.CX P w) 1 f fd ["base", "count"] spPow := by
  have S := nk_power
  refine F.okN sc_power (fun vs H Q E h => ?_) (fun cdv A outer s H vs Q E hr h => ?_)
  · obtain ⟨b, n, t, rfl, _⟩ := h; rfl
  · obtain ⟨b, n, t, rfl, hb, ht, hQ⟩ := h
    show ZSs _ _ _ _ _ _ [some (.int b), some (.int n), none, none] H
    fail "z0"
    refine zs_whl pass_def (fun c σ H' => ∃ (e g : Nat), σ = [some (.int b), some (.int c), some (.int (b ^ g)), some (.int (b ^ e))] ∧ H' = H ∧ g + e * c = n) n ⟨1, 0, by rw [Int.pow_succ, Int.pow_zero, Int.one_mul], rfl, by omega⟩ ?_
    rintro c σ H' ⟨e, g, rfl, rfl, hc⟩
    fail "za"
    · exact (Bd.pow hb g).cmul (Bd.pow hb e) (by
        have h1 : t * g ≤ t * n := Nat.mul_le_mul_left _ (by omega)
        have h2 : e * 1 ≤ e * c := Nat.mul_le_mul_left _ (by omega)
        have h3 : t * e ≤ t * n := Nat.mul_le_mul_left _ (by omega)
        omega)
    · exact (Bd.pow hb e).cmul (Bd.pow hb e) (by
        have h2 : e * 1 ≤ e * c := Nat.mul_le_mul_left _ (by omega)
        have h3 : t * e ≤ t * n := Nat.mul_le_mul_left _ (by omega)
        omega)
    · obtain ⟨k, rfl⟩ : ∃ k, c = 2 * k + 1 := ⟨c / 2, by omega⟩
      refine ⟨k, by omega, e + e, g + e, ?_, rfl, ?_⟩
      · rw [Int.pow_add, Int.pow_add, show (((2 * k + 1 : Nat) : Int) / 2) = (k : Int) by omega]
      · rw [Nat.mul_add, Nat.mul_left_comm] at hc
        rw [Nat.add_mul]; omega
    · exact (Bd.pow hb e).cmul (Bd.pow hb e) (by
        have h2 : e * 1 ≤ e * c := Nat.mul_le_mul_left _ (by omega)
        have h3 : t * e ≤ t * n := Nat.mul_le_mul_left _ (by omega)
        omega)
    · obtain ⟨k, rfl⟩ : ∃ k, c = 2 * k := ⟨c / 2, by omega⟩
      refine ⟨k, by omega, e + e, g, ?_, rfl, ?_⟩
      · rw [Int.pow_add, show (((2 * k : Nat) : Int) / 2) = (k : Int) by omega]
      · rw [Nat.mul_left_comm] at hc
        rw [Nat.add_mul]; omega
    · have hc0 : c = 0 := by omega
      subst hc0
      have hg : g = n := by omega
      subst hg
      exact hQ
def sqs (b : Int) (m : Nat) : List V := (List.range m).map fun i => V.int (b ^ (2 ^ i))
theorem sqs_succ (b : Int) (m : Nat) : sqs b (m + 1) = sqs b m ++ [.int (b ^ (2 ^ m))] := by
  unfold sqs
  rw [List.range_succ, List.map_append]; rfl
theorem sqs_len (b : Int) (m : Nat) : (sqs b m).length = m := by unfold sqs; rw [List.length_map, List.length_range]
theorem two_pow_le {b : Int} (h : 2 ≤ b) : ∀ n : Nat, (2 : Int) ^ n ≤ b ^ n
  | 0 => by rw [Int.pow_zero, Int.pow_zero]; exact Int.le_refl _
  | n + 1 => by
    have ih := two_pow_le h n
    have h0 : (0 : Int) ≤ 2 ^ n := Int.le_of_lt (Int.pow_pos (by decide))
    rw [Int.pow_succ, Int.pow_succ]
    exact Int.mul_le_mul ih h (by decide) (Int.le_trans h0 ih)
theorem Bd.le {N : Nat} {x y : Int} (h0 : 0 ≤ x) (h : x ≤ y) (k : Bd N y) : Bd N x := by unfold Bd at *; omega
theorem few {b : Int} (h2 : 2 ≤ b) {m N : Nat} {z : Int} (hz : Bd N z) (h : b ^ (2 ^ m) ≤ z) : m < N := by
  have h1 : (2 : Int) ^ (2 ^ m) ≤ b ^ (2 ^ m) := two_pow_le h2 _
  have h3 : ((2 ^ (2 ^ m) : Nat) : Int) ≤ z := by push_cast; exact Int.le_trans h1 h
  have h4 : 2 ^ (2 ^ m) < 2 ^ N := Nat.lt_of_le_of_lt (by omega) hz
  have h5 : 2 ^ m < N := (Nat.pow_lt_pow_iff_right (by decide)).mp h4
  exact Nat.lt_trans Nat.lt_two_pow_self h5
def spSqs : Sp := fun vs H Q _ => ∃ (b z : Int) (N : Nat), vs = [.int b, .int z] ∧ 2 ≤ b ∧ b ≤ 36 ∧ 0 ≤ z ∧ Bd N z ∧ N ≤ 400000 ∧ ∀ m p H', NoA H p → Same H H' → H' p = some (.lst (sqs b m)) → m ≤ N → z < b ^ (2 ^ m) → Q (.ref p) H'
theorem sqs_do {b z : Int} {N : Nat} {H : Hp} {Q : VK} {E : XK} (h1 : 2 ≤ b) (h2 : b ≤ 36) (h3 : 0 ≤ z) (h4 : Bd N z) (h5 : N ≤ 400000) (h : ∀ m p H', NoA H p → Same H H' → H' p = some (.lst (sqs b m)) → m ≤ N → z < b ^ (2 ^ m) → Q (.ref p) H') : spSqs [.int b, .int z] H Q E := ⟨b, z, N, rfl, h1, h2, h3, h4, h5, h⟩
theorem ok_sqs {f : Addr} {fd : FuncData} (F : Fun K "squares_up_to" "squares_up_to" S_squares_up_to f fd) : FnOk P w K mg base (L2N.CX P w) 1 f fd ["base", "size"] spSqs := by
  have S := nk_squares_up_to
  refine F.okN sc_squares_up_to (fun vs H Q E h => ?_) (fun cdv A outer s H vs Q E hr h => ?_)
  · obtain ⟨b, z, N, rfl, _⟩ := h; rfl
  · obtain ⟨b, z, N, rfl, h1, h2, h3, h4, h5, hQ⟩ := h
    show ZSs _ _ _ _ _ _ [some (.int b), some (.int z), none, none] H
    fail "z0"
    rename_i p np
    refine zs_whl pass_def (fun t σ H' => ∃ i : Nat, σ = [some (.int b), some (.int z), some (.ref p), some (.int (b ^ (2 ^ i)))] ∧ H' = upd H p (.lst (sqs b i)) ∧ t = (z + 1 - b ^ (2 ^ i)).toNat ∧ i ≤ N) (z + 1 - b).toNat ⟨0, by rw [Nat.pow_zero, Int.pow_succ, Int.pow_zero, Int.one_mul], rfl, by rw [Nat.pow_zero, Int.pow_succ, Int.pow_zero, Int.one_mul], Nat.zero_le _⟩ ?_
    rintro t σ H' ⟨i, rfl, rfl, rfl, hi⟩
    have big : 2 ≤ b ^ (2 ^ i) := by
      have h1' : (2 : Int) ^ (2 ^ i) ≤ b ^ (2 ^ i) := two_pow_le h1 _
      have h3' : 2 ≤ 2 ^ (2 ^ i) := by
        have : 2 ^ 1 ≤ 2 ^ (2 ^ i) := Nat.pow_le_pow_right (by decide) Nat.one_le_two_pow
        simpa using this
      have h4' : ((2 ^ (2 ^ i) : Nat) : Int) = (2 : Int) ^ (2 ^ i) := by push_cast; rfl
      omega
    fail "za"
    · rw [sqs_len, sizeLine_eq]; omega
    · have k : Bd N (b ^ (2 ^ i)) := Bd.le (by omega) (by assumption) h4
      exact k.cmul k (by omega)
    · have fw := few h1 h4 (m := i) (by assumption)
      have dbl : b ^ (2 ^ (i + 1)) = b ^ (2 ^ i) * b ^ (2 ^ i) := by rw [Nat.pow_succ, Nat.mul_two, Int.pow_add]
      refine ⟨(z + 1 - b ^ (2 ^ (i + 1))).toNat, ?_, i + 1, by rw [dbl], by rw [upd_upd, sqs_succ], rfl, by omega⟩
      have g : 2 * b ^ (2 ^ i) ≤ b ^ (2 ^ i) * b ^ (2 ^ i) := Int.mul_le_mul_of_nonneg_right big (by omega)
      rw [dbl]
      omega
    · exact hQ i _ _ np (by fail "zsm") upd_same hi (by omega)
def spWZ : Sp := fun vs H Q _ => ∃ (b c : Int) (N : Nat), vs = [.int b, .int c] ∧ 2 ≤ b ∧ b ≤ 36 ∧ c ≠ 0 ∧ Bd N c ∧ N ≤ 8000 ∧ ∀ p H' (r : Int) (k : Nat), NoA H p → Same H H' → H' p = some (.tup [.int r, .int k]) → r * b ^ k = c → ¬ b ∣ r → Q (.ref p) H'
theorem wz_do {b c : Int} {N : Nat} {H : Hp} {Q : VK} {E : XK} (h1 : 2 ≤ b) (h2 : b ≤ 36) (h3 : c ≠ 0) (h4 : Bd N c) (h5 : N ≤ 8000) (h : ∀ p H' (r : Int) (k : Nat), NoA H p → Same H H' → H' p = some (.tup [.int r, .int k]) → r * b ^ k = c → ¬ b ∣ r → Q (.ref p) H') : spWZ [.int b, .int c] H Q E := ⟨b, c, N, rfl, h1, h2, h3, h4, h5, h⟩
theorem not_dvd_big {x c : Int} (hc : c ≠ 0) (h : (if c < 0 then -c else c) < x) : ¬ x ∣ c := fun d => by
  have a := Nat.le_of_dvd (by omega) (Int.natAbs_dvd_natAbs.mpr d)
  split at h <;> omega
section
local macro_rules | `(tactic| fail "zP") => `(tactic| (with_reducible refine pow_do (n := _) (t := 2) ?_ ?_ ?_))
theorem ok_wz {f : Addr} {fd : FuncData} (F : Fun K "without_zeros" "without_zeros" S_without_zeros f fd) (B : Blt mg) (cP : Cal P w K mg base 1 "power" spPow) (cS : Cal P w K mg base 1 "squares_up_to" spSqs) : FnOk P w K mg base (L2N.CX P w) 2 f fd ["base", "coefficient"] spWZ := by
  have S := nk_without_zeros
  refine F.okN sc_without_zeros (fun vs H Q E h => ?_) (fun cdv A outer s H vs Q E hr h => ?_)
  · obtain ⟨b, z, N, rfl, _⟩ := h; rfl
  · obtain ⟨b, c, N, rfl, h1, h2, h3, h4, h5, hQ⟩ := h
    show ZSs _ _ _ _ _ _ [some (.int b), some (.int c), none, none, none, none] H
    fail "z0"
    refine sqs_do (N := N) h1 h2 (by split <;> omega) (by split; exact h4.neg; exact h4) (by omega) (fun m ps H1 nps s1 hps hm hbig => ?_)
    fail "za"
    refine zs_forRev pass_def rfl B.range B.rev ?_
    fail "za"
    rw [sqs_len]
    refine ⟨by omega, fun i σ H' => ∃ (r : Int) (n : Nat) (o : Option V), i ≤ m ∧ σ = [some (.int b), some (.int c), some (.ref ps), some (.int r), some (.int n), o] ∧ H' = H1 ∧ r * b ^ n = c ∧ ¬ b ^ (2 ^ (m - i)) ∣ r ∧ Bd N r, ⟨c, 0, none, Nat.zero_le _, rfl, rfl, by rw [Int.pow_zero, Int.mul_one], not_dvd_big h3 hbig, h4⟩, ?_, ?_⟩
    · rintro i σ H' hi ⟨r, n, o, _, rfl, rfl, hrc, hnd, hbr⟩
      have hx : (sqs b m)[m - 1 - i]? = some (.int (b ^ (2 ^ (m - 1 - i)))) := by
        unfold sqs
        rw [List.getElem?_map, List.getElem?_range (by omega)]; rfl
      have hs0 : 0 < b ^ (2 ^ (m - 1 - i)) := Int.pow_pos (by omega)
      have e2 : b ^ (2 ^ (m - i)) = b ^ (2 ^ (m - 1 - i)) * b ^ (2 ^ (m - 1 - i)) := by
        rw [show m - i = (m - 1 - i) + 1 by omega, Nat.pow_succ, Nat.mul_two, Int.pow_add]
      rw [e2] at hnd
      have e3 : m - (i + 1) = m - 1 - i := by omega
      fail "za"
      refine xw_lst (SqL.of hps) (atI_nat hx) ?_
      fail "za"
      · have hz := ‹r % _ = 0›
        have dv : b ^ (2 ^ (m - 1 - i)) ∣ r := Int.dvd_of_emod_eq_zero hz
        have em : r / b ^ (2 ^ (m - 1 - i)) * b ^ (2 ^ (m - 1 - i)) = r := Int.ediv_mul_cancel dv
        have r0 : r ≠ 0 := fun e => hnd (by rw [e]; exact Int.dvd_zero _)
        have le := Nat.le_of_dvd (by omega) (Int.natAbs_dvd_natAbs.mpr dv)
        have bs : Bd N (b ^ (2 ^ (m - 1 - i))) := Nat.lt_of_le_of_lt le hbr
        refine xw_lst (SqL.of hps) (atI_nat hx) ?_
        fail "za"
        · exact ⟨hs0, Nat.lt_of_le_of_lt bs.log (by omega)⟩
        · unfold Bd; decide
        · omega
        · refine ⟨_, n + 2 ^ (m - 1 - i), _, hi, by push_cast; rfl, rfl, ?_, ?_, ?_⟩
          · rw [Int.pow_add, ← hrc, ← Int.mul_assoc, Int.mul_comm (r / _) (b ^ n), Int.mul_assoc, em, Int.mul_comm]
          · rw [e3]
            intro d2
            refine hnd ?_
            have := Int.mul_dvd_mul d2 (Int.dvd_refl (b ^ (2 ^ (m - 1 - i))))
            rwa [em] at this
          · refine Nat.lt_of_le_of_lt ?_ hbr
            have := Nat.le_mul_of_pos_right (r / b ^ (2 ^ (m - 1 - i))).natAbs (show 0 < (b ^ (2 ^ (m - 1 - i))).natAbs by omega)
            rwa [← Int.natAbs_mul, em] at this
      · rename_i hz
        exact ⟨r, n, _, hi, rfl, rfl, hrc, by rw [e3]; exact fun d => hz (Int.emod_eq_zero_of_dvd d), hbr⟩
    · rintro σ H' ⟨r, n, o, _, rfl, rfl, hrc, hnd, hbr⟩
      fail "za"
      rename_i q nq
      rw [Nat.sub_self, Nat.pow_zero, Int.pow_succ, Int.pow_zero, Int.one_mul] at hnd
      exact hQ q _ r n ⟨by fail "zno"⟩ (by fail "zsm") upd_same hrc hnd
end
/-- what the written part says of Exact -/
structure ExTxt (K : PySem.W.Frag) (C : Addr) : Prop where
  I : ClsI K C
  nb : NoAttr K C "base"
  nc : NoAttr K C "coefficient"
  ne : NoAttr K C "exponent"
def fsE (b c e : Int) : List (Str × V) := [("base", .int b), ("coefficient", .int c), ("exponent", .int e)]
/-- the lowest form of c * b^e -/
def Low (b c e c' e' : Int) : Prop := (c = 0 ∧ c' = 0 ∧ e' = 0) ∨ (c ≠ 0 ∧ ∃ k : Nat, c' * b ^ k = c ∧ ¬ b ∣ c' ∧ e' = e + k)
def spIni (C CB : Addr) : Sp := fun vs H Q E => ∃ (p dx : Addr) (b c e : Int) (N : Nat), vs = [.ref p, .int b, .int c, .int e] ∧ H p = some (.ins C dx []) ∧ Bd N c ∧ N ≤ 8000 ∧ (2 ≤ b → b ≤ 36 → ∀ H' c' e', (∀ a o, a ≠ p → H a = some o → H' a = some o) → H' p = some (.ins C dx (fsE b c' e')) → Low b c e c' e' → Q .non H') ∧ (¬ (2 ≤ b ∧ b ≤ 36) → ∀ d, NoA H d → E (.ref CB) (some d) (upd H d (.xd [("base", .int b)])))
section
local macro_rules | `(tactic| fail "zP") => `(tactic| (with_reducible refine cb_do (fun ⟨_, _⟩ => ?_) (fun _ _ _ => ?_)))
theorem ok_ini {f C CB : Addr} {fd : FuncData} (F : FunD K "__init__" "Exact.__init__" (defArgs S_Exact___init__) (defBody S_Exact___init__) (defScope S_Exact___init__) [.int 0] [] f fd) (T : ExTxt K C) (cB : Cal P w K mg base 2 "check_base" (spCB CB)) (cW : Cal P w K mg base 2 "without_zeros" spWZ) : FnOk P w K mg base (L2N.CX P w) 3 f fd ["self", "base", "coefficient", "exponent"] (spIni C CB) := by
  have S := nk_Exact___init__
  obtain ⟨I, nb, nc, ne⟩ := T
  have cl := I.cl
  refine F.okN sc_Exact___init__ (fun vs H Q E h => ?_) (fun cdv A outer s H vs Q E hr h => ?_)
  · obtain ⟨p, dx, b, c, e, N, rfl, _⟩ := h; rfl
  · obtain ⟨p, dx, b, c, e, N, rfl, hp, h4, h5, hQ, hE⟩ := h
    show ZSs _ _ _ _ _ _ [some (.ref p), some (.int b), some (.int c), some (.int e), none, none] H
    fail "z0"
    · rename_i h1 h2 h3
      exact hQ h1 h2 _ 0 0 (fun a o na ha => by rw [upd_ne na, upd_ne na, upd_ne na]; exact ha) upd_same (.inl ⟨h3, rfl, rfl⟩)
    · rename_i h1 h2 h3
      refine wz_do h1 h2 h3 h4 h5 (fun q H1 r k nq s1 hq hrk hnd => ?_)
      have hp1 := s1 _ _ upd_same
      fail "za"
      refine hQ h1 h2 _ r (e + k) (fun a o na ha => ?_) upd_same (.inr ⟨h3, k, hrk, hnd, rfl⟩)
      rw [upd_ne na, upd_ne na]
      exact s1 _ _ (by rw [upd_ne na]; exact ha)
    · exact hE (by assumption) _ (by assumption)
end
/-- Exact(base, coefficient[, exponent]) -/
def spEx (C CB : Addr) : Sp := fun vs H Q E => ∃ (p : Addr) (b c : Int), (∃ e, vs = [.ref p, .int b, .int c, .int e] ∧ spIni C CB [.ref p, .int b, .int c, .int e] H Q E) ∨ (vs = [.ref p, .int b, .int c] ∧ spIni C CB [.ref p, .int b, .int c, .int 0] H Q E)
theorem ini_of {C CB a dx : Addr} {b c e : Int} {N : Nat} {H : Hp} {R : VK} {E : XK} (n1 : NoA H a) (n2 : NoA H dx) (ne : dx ≠ a) (h4 : Bd N c) (h5 : N ≤ 8000)
    (h : 2 ≤ b → b ≤ 36 → ∀ H' c' e', Same H H' → H' a = some (.ins C dx (fsE b c' e')) → Low b c e c' e' → R .non H')
    (hE : ¬ (2 ≤ b ∧ b ≤ 36) → ∀ d H', Same H H' → H' d = some (.xd [("base", .int b)]) → E (.ref CB) (some d) H') :
    spIni C CB [.ref a, .int b, .int c, .int e] (upd (upd H dx (.own a)) a (.ins C dx [])) R E := by
  have s1 : Same H (upd (upd H dx (.own a)) a (.ins C dx [])) := .put (.put (.refl _) n2.e) n1.e
  refine ⟨a, dx, b, c, e, N, rfl, upd_same, h4, h5, fun b1 b2 H' c' e' k hp hl => h b1 b2 H' c' e' (fun x o hx => k x o (ne_of_none hx n1.e) (s1 x o hx)) hp hl, fun nb d nd => hE nb d _ (.new s1 nd.e) upd_same⟩
/-- an exact number at p (its fields) -/
def ExF (C : Addr) (H : Hp) (p : Addr) (b c e : Int) : Prop := ∃ dx, H p = some (.ins C dx (fsE b c e))
theorem ExF.same {C : Addr} {H H' : Hp} {p : Addr} {b c e : Int} (h : ExF C H p b c e) (s : Same H H') : ExF C H' p b c e := ⟨_, s _ _ h.choose_spec⟩
/-- an exact number in lowest form at p, with what was passed in -/
def ExAt (C : Addr) (H : Hp) (p : Addr) (b c e c' e' : Int) : Prop := (∃ dx, H p = some (.ins C dx (fsE b c' e'))) ∧ Low b c e c' e'
theorem ExAt.same {C : Addr} {H H' : Hp} {p : Addr} {b c e c' e' : Int} (h : ExAt C H p b c e c' e') (s : Same H H') : ExAt C H' p b c e c' e' := ⟨⟨_, s _ _ h.1.choose_spec⟩, h.2⟩
theorem ex_do {C CB a dx : Addr} {b c e : Int} {N : Nat} {H : Hp} {R : VK} {E : XK} (n1 : NoA H a) (n2 : NoA H dx) (ne : dx ≠ a) (h1 : 2 ≤ b) (h2 : b ≤ 36) (h4 : Bd N c) (h5 : N ≤ 8000)
    (h : ∀ H' c' e', Same H H' → ExAt C H' a b c e c' e' → R .non H') :
    spEx C CB [.ref a, .int b, .int c, .int e] (upd (upd H dx (.own a)) a (.ins C dx [])) R E :=
  ⟨a, b, c, .inl ⟨e, rfl, ini_of n1 n2 ne h4 h5 (fun _ _ H' c' e' s hp l => h H' c' e' s ⟨⟨_, hp⟩, l⟩) (fun z => absurd ⟨h1, h2⟩ z)⟩⟩
theorem ex_do2 {C CB a dx : Addr} {b c : Int} {N : Nat} {H : Hp} {R : VK} {E : XK} (n1 : NoA H a) (n2 : NoA H dx) (ne : dx ≠ a) (h1 : 2 ≤ b) (h2 : b ≤ 36) (h4 : Bd N c) (h5 : N ≤ 8000)
    (h : ∀ H' c' e', Same H H' → ExAt C H' a b c 0 c' e' → R .non H') :
    spEx C CB [.ref a, .int b, .int c] (upd (upd H dx (.own a)) a (.ins C dx [])) R E :=
  ⟨a, b, c, .inr ⟨rfl, ini_of n1 n2 ne h4 h5 (fun _ _ H' c' e' s hp l => h H' c' e' s ⟨⟨_, hp⟩, l⟩) (fun z => absurd ⟨h1, h2⟩ z)⟩⟩
theorem exact_cal {f C CB : Addr} {fd : FuncData} (M : L2.Mk K C f) (F : FunD K "__init__" "Exact.__init__" (defArgs S_Exact___init__) (defBody S_Exact___init__) (defScope S_Exact___init__) [.int 0] [] f fd) (b4 : Binds K fd ["self", "base", "coefficient", "exponent"] []) (b3 : ∃ ds, Vals [V.int 0] ds ∧ Binds K fd ["self", "base", "coefficient", "exponent"] ds) (gm : mg "Exact" = some (.ref C)) (ok : FnOk P w K mg base (L2N.CX P w) 3 f fd ["self", "base", "coefficient", "exponent"] (spIni C CB)) : CalC P w K mg base 3 "Exact" C (spEx C CB) := by
  refine ⟨f, fd, _, _, M, ok, gm, fun vs H Q E h => ?_⟩
  obtain ⟨p, b, c, ⟨e, rfl, h⟩ | ⟨rfl, h⟩⟩ := h
  · exact ⟨[], [], b4, .nil, h⟩
  · obtain ⟨ds, v, bd⟩ := b3
    exact ⟨[.int 0], ds, bd, v, h⟩

def spPowL : Sp := fun vs H Q _ => ∃ (b : Int) (n t : Nat), vs = [.int b, .int n] ∧ Bd t b ∧ t * n + t + n < 400000 ∧ Q (.int (b ^ n)) H
theorem powl_do {b : Int} {n t : Nat} {H : Hp} {Q : VK} {E : XK} (h : Bd t b) (h2 : t * n + t + n < 400000) (q : Q (.int (b ^ n)) H) : spPowL [.int b, .int n] H Q E := ⟨b, n, t, rfl, h, h2, q⟩
theorem ok_powl {f : Addr} {fd : FuncData} (F : Fun K "_law_power" "_law_power" S__law_power f fd) (B : Blt mg) : FnOk P w K mg base (L2N.CX P w) 1 f fd ["base", "count"] spPowL := by
  have S := nk__law_power
  refine F.okN sc__law_power (fun vs H Q E h => ?_) (fun cdv A outer s H vs Q E hr h => ?_)
  · obtain ⟨b, n, t, rfl, _⟩ := h; rfl
  · obtain ⟨b, n, t, rfl, hb, ht, hQ⟩ := h
    show ZSs _ _ _ _ _ _ [some (.int b), some (.int n), none, none] H
    fail "z0"
    refine zs_forR pass_def rfl B.range ?_
    fail "za"
    refine ⟨by omega, by omega, fun i σ H' => ∃ o, σ = [some (.int b), some (.int n), some (.int (b ^ i)), o] ∧ H' = H, ⟨_, by rw [Int.pow_zero], rfl⟩, ?_, ?_⟩
    · rintro i σ H' hi ⟨o, rfl, rfl⟩
      fail "za"
      · exact (Bd.pow hb i).cmul hb (by
          have h3 : t * i ≤ t * n := Nat.mul_le_mul_left _ (by omega)
          omega)
      · exact ⟨_, by rw [Int.pow_succ], rfl⟩
    · rintro σ H' ⟨o, rfl, rfl⟩
      fail "za"
      exact hQ

theorem Low.one {b c e c1 e1 c2 e2 : Int} (hb : 2 ≤ b) (h1 : Low b c e c1 e1) (h2 : Low b c e c2 e2) : c1 = c2 ∧ e1 = e2 := by
  have key : ∀ {x y : Int} {k l : Nat}, x * b ^ k = y * b ^ l → ¬ b ∣ x → k ≤ l → k = l ∧ x = y := by
    intro x y k l e nx hkl
    have bp : (b ^ k : Int) ≠ 0 := Int.ne_of_gt (Int.pow_pos (by omega))
    rw [show l = (l - k) + k by omega, Int.pow_add, ← Int.mul_assoc] at e
    have e2 := Int.eq_of_mul_eq_mul_right bp e
    by_cases h : l - k = 0
    · rw [h, Int.pow_zero, Int.mul_one] at e2
      exact ⟨by omega, e2⟩
    · exfalso
      refine nx ⟨y * b ^ (l - k - 1), ?_⟩
      rw [e2, show l - k = (l - k - 1) + 1 by omega, Int.pow_succ, Nat.add_sub_cancel, ← Int.mul_assoc, Int.mul_comm]
  rcases h1 with ⟨c0, rfl, rfl⟩ | ⟨c0, k, hk, nk, rfl⟩ <;> rcases h2 with ⟨d0, rfl, rfl⟩ | ⟨d0, l, hl, nl, rfl⟩
  · exact ⟨rfl, rfl⟩
  · exact absurd c0 d0
  · exact absurd d0 c0
  · rcases Nat.le_total k l with h | h
    · obtain ⟨rfl, rfl⟩ := key (hk.trans hl.symm) nk h; exact ⟨rfl, rfl⟩
    · obtain ⟨rfl, rfl⟩ := key (hl.trans hk.symm) nl h; exact ⟨rfl, rfl⟩
def spLowest : Sp := fun vs H Q _ => ∃ (b c e : Int) (N : Nat), vs = [.int b, .int c, .int e] ∧ 2 ≤ b ∧ b ≤ 36 ∧ Bd N c ∧ N ≤ 8000 ∧ ∀ q c' e' H', Low b c e c' e' → Same H H' → NoA H q → H' q = some (.tup [.int c', .int e']) → Q (.ref q) H'
theorem lowest_do {b c e : Int} {N : Nat} {H : Hp} {Q : VK} {E : XK} (h1 : 2 ≤ b) (h2 : b ≤ 36) (h3 : Bd N c) (h4 : N ≤ 8000) (h : ∀ q c' e' H', Low b c e c' e' → Same H H' → NoA H q → H' q = some (.tup [.int c', .int e']) → Q (.ref q) H') : spLowest [.int b, .int c, .int e] H Q E := ⟨b, c, e, N, rfl, h1, h2, h3, h4, h⟩
theorem div_fix {r b : Int} (h : r % b = 0) : r / b * b = r := Int.ediv_mul_cancel (Int.dvd_of_emod_eq_zero h)
theorem div_less {r b : Int} (h : r % b = 0) (b2 : 2 ≤ b) (r0 : r ≠ 0) : (r / b).natAbs < r.natAbs ∧ r / b ≠ 0 := by
  have e := div_fix h
  have q0 : r / b ≠ 0 := fun z => r0 (by rw [← e, z, Int.zero_mul])
  have e2 := congrArg Int.natAbs e
  rw [Int.natAbs_mul] at e2
  have := Nat.mul_le_mul_left (r / b).natAbs (show 2 ≤ b.natAbs by omega)
  exact ⟨by omega, q0⟩
theorem ok_lowest {f : Addr} {fd : FuncData} (F : Fun K "_law_lowest" "_law_lowest" S__law_lowest f fd) (B : Blt mg) (cP : Cal P w K mg base 1 "_law_power" spPowL) : FnOk P w K mg base (L2N.CX P w) 2 f fd ["base", "coefficient", "exponent"] spLowest := by
  have S := nk__law_lowest
  refine F.okN sc__law_lowest (fun vs H Q E h => ?_) (fun cdv A outer s H vs Q E hr h => ?_)
  · obtain ⟨b, c, e, N, rfl, _⟩ := h; rfl
  · obtain ⟨b, c, e, N, rfl, h1, h2, h3, h4, hQ⟩ := h
    show ZSs _ _ _ _ _ _ [some (.int b), some (.int c), some (.int e), none, none, none] H
    have bb : Bd 6 b := by unfold Bd; omega
    have bp : Bd 97 (b ^ 16) := bb.pow 16
    have p2 : 2 ≤ b ^ 16 := by
      have h1' : (2 : Int) ^ 16 ≤ b ^ 16 := two_pow_le h1 _
      have : (2 : Int) ^ 16 = 65536 := by decide
      omega
    fail "z0"
    · exact hQ _ 0 0 _ (.inl ⟨by assumption, rfl, rfl⟩) (by fail "zsm") (by assumption) upd_same
    · rename_i c0
      refine powl_do (n := 16) (t := 6) bb (by omega) ?_
      fail "za"
      refine zs_whl pass_def (fun t σ H' => ∃ (r : Int) (k : Nat), σ = [some (.int b), some (.int c), some (.int e), some (.int r), some (.int (e + k)), some (.int (b ^ 16))] ∧ H' = H ∧ r * b ^ k = c ∧ r ≠ 0 ∧ Bd N r ∧ t = r.natAbs) c.natAbs ⟨c, 0, by rw [show e + ((0 : Nat) : Int) = e by omega], rfl, by rw [Int.pow_zero, Int.mul_one], c0, h3, rfl⟩ ?_
      rintro t σ H' ⟨r, k, rfl, rfl, hk, r0, hr2, rfl⟩
      fail "za"
      · exact ⟨by omega, Nat.lt_of_le_of_lt bp.log (by omega)⟩
      · rename_i hz
        have dl := div_less hz p2 r0
        refine ⟨(r / b ^ 16).natAbs, dl.1, _, k + 16, by rw [show (e + (k : Int) + 16) = e + ((k + 16 : Nat) : Int) by omega], rfl, ?_, dl.2, ?_, rfl⟩
        · rw [Nat.add_comm, Int.pow_add, ← Int.mul_assoc, div_fix hz, hk]
        · exact Nat.lt_trans dl.1 hr2
      · refine zs_whl pass_def (fun t σ H'' => ∃ (r : Int) (k : Nat), σ = [some (.int b), some (.int c), some (.int e), some (.int r), some (.int (e + k)), some (.int (b ^ 16))] ∧ H'' = H' ∧ r * b ^ k = c ∧ r ≠ 0 ∧ Bd N r ∧ t = r.natAbs) r.natAbs ⟨r, k, rfl, rfl, hk, r0, hr2, rfl⟩ ?_
        rintro t σ H'' ⟨r, k, rfl, rfl, hk, r0, hr2, rfl⟩
        fail "za"
        · rename_i hz
          have dl := div_less hz h1 r0
          refine ⟨(r / b).natAbs, dl.1, _, k + 1, by rw [show (e + (k : Int) + 1) = e + ((k + 1 : Nat) : Int) by omega], rfl, ?_, dl.2, ?_, rfl⟩
          · rw [Int.pow_succ, Int.mul_comm (b ^ k), ← Int.mul_assoc, div_fix hz, hk]
          · exact Nat.lt_trans dl.1 hr2
        · rename_i hz q nq
          exact hQ _ r (e + k) _ (.inr ⟨c0, k, hk, fun d => hz (Int.emod_eq_zero_of_dvd d), rfl⟩) (by fail "zsm") (by assumption) upd_same

/-- in lowest form -/
def LowF (b c e : Int) : Prop := (c = 0 ∧ e = 0) ∨ (c ≠ 0 ∧ ¬ b ∣ c)
theorem Low.f {b c e c' e' : Int} (hb : 2 ≤ b) (h : Low b c e c' e') : LowF b c' e' := by
  rcases h with ⟨_, rfl, rfl⟩ | ⟨c0, k, hk, nk, rfl⟩
  · exact .inl ⟨rfl, rfl⟩
  · exact .inr ⟨fun z => c0 (by rw [← hk, z, Int.zero_mul]), nk⟩
theorem LowF.low {b c e : Int} (h : LowF b c e) : Low b c e c e := by
  rcases h with ⟨rfl, rfl⟩ | ⟨c0, nd⟩
  · exact .inl ⟨rfl, rfl, rfl⟩
  · exact .inr ⟨c0, 0, by rw [Int.pow_zero, Int.mul_one], nd, by omega⟩
theorem Low.nz {b i d g e : Int} (h : Low b i e d g) : d = 0 ↔ i = 0 := by
  rcases h with ⟨rfl, rfl, rfl⟩ | ⟨c0, k, hk, nk, rfl⟩
  · exact ⟨fun _ => rfl, fun _ => rfl⟩
  · exact ⟨fun z => by rw [← hk, z, Int.zero_mul], fun z => absurd z c0⟩
theorem Low.bd {b c e c' e' : Int} {N : Nat} (h : Low b c e c' e') (hb : Bd N c) (b0 : b ≠ 0) : Bd N c' := by
  rcases h with ⟨rfl, rfl, rfl⟩ | ⟨c0, k, hk, hnd, rfl⟩
  · exact hb
  · refine Nat.lt_of_le_of_lt ?_ hb
    rw [← hk, Int.natAbs_mul, Int.natAbs_pow]
    exact Nat.le_mul_of_pos_right _ (Nat.pow_pos (by omega))
theorem Low.sm {b c e c' e' : Int} {n : Nat} (h : Low b c e c' e') (hb : Sm b n c) (b0 : b ≠ 0) : Sm b n c' := by
  rcases h with ⟨rfl, rfl, rfl⟩ | ⟨c0, k, hk, hnd, rfl⟩
  · exact hb
  · refine Nat.lt_of_le_of_lt ?_ hb
    rw [← hk, Int.natAbs_mul, Int.natAbs_pow]
    exact Nat.le_mul_of_pos_right _ (Nat.pow_pos (by omega))
theorem Low.exp {b c e c' e' : Int} {n : Nat} (h : Low b c e c' e') (hb : Sm b n c) (b2 : 2 ≤ b) : (c' = 0 ∧ e' = 0) ∨ (e ≤ e' ∧ e' ≤ e + n) := by
  rcases h with ⟨rfl, rfl, rfl⟩ | ⟨c0, k, hk, hnd, rfl⟩
  · exact .inl ⟨rfl, rfl⟩
  · have := hb.cnt b2 hk c0
    exact .inr ⟨by omega, by omega⟩
def spFull : Sp := fun vs H Q _ => ∃ (s : Addr) (b : Int) (p : Nat), vs = [.ref s, .int b, .int p] ∧ Src H s ∧ 2 ≤ b ∧ b ≤ 36 ∧ 2 ≤ p ∧ p ≤ 300 ∧ ∀ v H', b ^ (p - 1) ≤ v → v < b ^ p → Same H H' → Q (.int v) H'
theorem full_do {s : Addr} {b : Int} {p : Nat} {H : Hp} {Q : VK} {E : XK} (h0 : Src H s) (h1 : 2 ≤ b) (h2 : b ≤ 36) (h3 : 3 ≤ p) (h4 : p ≤ 300) (h : ∀ v H', b ^ (p - 1) ≤ v → v < b ^ p → Same H H' → Q (.int v) H') : spFull [.ref s, .int b, .int p] H Q E := ⟨s, b, p, rfl, h0, h1, h2, Nat.le_of_succ_le h3, h4, h⟩
theorem full_do2 {s : Addr} {b : Int} {p : Nat} {H : Hp} {Q : VK} {E : XK} (h0 : Src H s) (h1 : 2 ≤ b) (h2 : b ≤ 36) (h3 : 2 ≤ p) (h4 : p ≤ 300) (h : ∀ v H', b ^ (p - 1) ≤ v → v < b ^ p → Same H H' → Q (.int v) H') : spFull [.ref s, .int b, .int p] H Q E := ⟨s, b, p, rfl, h0, h1, h2, h3, h4, h⟩
section
local macro_rules | `(tactic| fail "zP") => `(tactic| (with_reducible refine powl_do (n := _) (t := 6) ?_ ?_ ?_))
theorem ok_full {f : Addr} {fd : FuncData} (F : Fun K "_law_full" "_law_full" S__law_full f fd) (B : Blt mg) (cD : Cal P w K mg base 1 "_law_draw" spDraw) (cP : Cal P w K mg base 1 "_law_power" spPowL) : FnOk P w K mg base (L2N.CX P w) 2 f fd ["source", "base", "precision"] spFull := by
  have S := nk__law_full
  refine F.okN sc__law_full (fun vs H Q E h => ?_) (fun cdv A outer s H vs Q E hr h => ?_)
  · obtain ⟨p, b, n, rfl, _⟩ := h; rfl
  · obtain ⟨p, b, n, rfl, hp, h1, h2, h3, h4, hQ⟩ := h
    have bb : Bd 6 b := by unfold Bd; omega
    obtain ⟨m, rfl⟩ : ∃ m, n = m + 2 := ⟨n - 2, by omega⟩
    have e1 : b ^ (m + 2) = b ^ (m + 1) * b := Int.pow_succ ..
    have e2 : b ^ (m + 1) = b ^ m * b := Int.pow_succ ..
    have pm : (0 : Int) < b ^ m := Int.pow_pos (by omega)
    have l1 : 1 * b ≤ b ^ (m + 1) := by rw [e2]; exact Int.mul_le_mul_of_nonneg_right (by omega) (by omega)
    have l2 : b ^ m * 2 ≤ b ^ (m + 1) := by rw [e2]; exact Int.mul_le_mul_of_nonneg_left h1 (by omega)
    have l3 : b ^ (m + 1) * 2 ≤ b ^ (m + 1) * b := Int.mul_le_mul_of_nonneg_left h1 (by omega)
    have bl : Bd 1801 (b ^ (m + 1)) := (bb.pow (m + 1)).mono (by omega)
    have hQ' : ∀ v, b ^ (m + 1) ≤ v → v < b ^ (m + 1) * b → Q (.int v) H := fun v a z => hQ v H (by rw [show m + 2 - 1 = m + 1 by omega]; exact a) (by rw [e1]; exact z) (Same.refl _)
    show ZSs _ _ _ _ _ _ [some (.ref p), some (.int b), some (.int ((m + 2 : Nat) : Int)), none, none, none, none] H
    fail "z0"
    rw [show ((m + 2 : Nat) : Int) - 1 = ((m + 1 : Nat) : Int) by omega]
    refine powl_do (n := m + 1) (t := 6) bb (by omega) ?_
    generalize hL : b ^ (m + 1) = L at *
    fail "za"
    all_goals try exact hQ' _ (by omega) (by omega)
    · rename_i j j0 j9
      obtain ⟨j, rfl⟩ := Int.eq_ofNat_of_zero_le j0
      refine powl_do (n := j) (t := 6) bb (by omega) ?_
      have pj : (0 : Int) < b ^ j := Int.pow_pos (by omega)
      have jl : b ^ j ≤ b ^ m := ipow_le (by omega) (by omega)
      fail "za"
      exact hQ' _ (by omega) (by omega)
    · rename_i kd k0 k9 n1 n2 n3 n4 n5 v v0 v9
      refine zs_forR pass_def rfl B.range ?_
      fail "za"
      refine ⟨by omega, by omega, fun i σ H' => ∃ (x : Int) (o : Option V), σ = [some (.ref p), some (.int b), some (.int ((m + 2 : Nat) : Int)), some (.int L), some (.int kd), some (.int x), o] ∧ H' = H ∧ b ^ i ≤ x ∧ x < b ^ (i + 1), ⟨1 + v, none, rfl, rfl, by rw [Int.pow_zero]; omega, by rw [Nat.zero_add, Int.pow_succ, Int.pow_zero, Int.one_mul]; omega⟩, ?_, ?_⟩
      · rintro i σ H' hi ⟨x, o, rfl, rfl, x1, x9⟩
        have bx : Bd 1801 x := by
          have h5 := (bb.pow (i + 1)).mono (show 6 * (i + 1) + 1 ≤ 1801 by omega)
          have h6 : (0 : Int) < b ^ i := Int.pow_pos (by omega)
          exact Bd.le (by omega) (by omega) h5
        have m1 := Int.mul_le_mul_of_nonneg_right x1 (show 0 ≤ b by omega)
        have m2 := Int.mul_le_mul_of_nonneg_right (Int.add_one_le_of_lt x9) (show 0 ≤ b by omega)
        rw [Int.add_mul, Int.one_mul] at m2
        fail "za"
        exact ⟨_, _, rfl, rfl, by rw [Int.pow_succ]; omega, by rw [Int.pow_succ]; omega⟩
      · rintro σ H' ⟨x, o, rfl, rfl, x1, x9⟩
        rw [show (((m + 2 : Nat) : Int) - 1).toNat = m + 1 by omega] at x1 x9
        rw [hL] at x1
        rw [show m + 1 + 1 = m + 2 from rfl, e1] at x9
        fail "za"
        exact hQ' _ x1 x9
end
theorem Sm.of_lt {b v : Int} {n : Nat} (h0 : 0 ≤ v) (b0 : 0 ≤ b) (h : v < b ^ n) : Sm b n v := by
  unfold Sm
  obtain ⟨v, rfl⟩ := Int.eq_ofNat_of_zero_le h0
  obtain ⟨b, rfl⟩ := Int.eq_ofNat_of_zero_le b0
  rw [Int.natAbs_natCast, Int.natAbs_natCast]
  have e : ((b ^ n : Nat) : Int) = (b : Int) ^ n := by push_cast; rfl
  omega

def spSmall : Sp := fun vs H Q _ => ∃ s : Addr, vs = [.ref s] ∧ Src H s ∧ ∀ v, -20 ≤ v → v ≤ 20 → Q (.int v) H
theorem small_do {s : Addr} {H : Hp} {Q : VK} {E : XK} (h0 : Src H s) (h : ∀ v, -20 ≤ v → v ≤ 20 → Q (.int v) H) : spSmall [.ref s] H Q E := ⟨s, rfl, h0, h⟩
theorem ok_small {f : Addr} {fd : FuncData} (F : Fun K "_law_small" "_law_small" S__law_small f fd) (cD : Cal P w K mg base 1 "_law_draw" spDraw) : FnOk P w K mg base (L2N.CX P w) 2 f fd ["source"] spSmall := by
  have S := nk__law_small
  refine F.okN sc__law_small (fun vs H Q E h => ?_) (fun cdv A outer s H vs Q E hr h => ?_)
  · obtain ⟨p, rfl, _⟩ := h; rfl
  · obtain ⟨p, rfl, hp, hQ⟩ := h
    show ZSs _ _ _ _ _ _ [some (.ref p), none] H
    fail "z0"
    all_goals exact hQ _ (by omega) (by omega)

def spMakeL (C : Addr) : Sp := fun vs H Q _ => ∃ (q : Addr) (b c e : Int) (N : Nat), vs = [.int b, .ref q] ∧ H q = some (.tup [.int c, .int e]) ∧ 2 ≤ b ∧ b ≤ 36 ∧ Bd N c ∧ N ≤ 8000 ∧ ∀ p H' c' e', Same H H' → NoA H p → ExAt C H' p b c e c' e' → Q (.ref p) H'
theorem make_do {C q : Addr} {b c e : Int} {N : Nat} {H : Hp} {Q : VK} {E : XK} (hq : H q = some (.tup [.int c, .int e])) (h1 : 2 ≤ b) (h2 : b ≤ 36) (h3 : Bd N c) (h4 : N ≤ 8000) (h : ∀ p H' c' e', Same H H' → NoA H p → ExAt C H' p b c e c' e' → Q (.ref p) H') : spMakeL C [.int b, .ref q] H Q E := ⟨q, b, c, e, N, rfl, hq, h1, h2, h3, h4, h⟩
theorem ok_make {f C CB : Addr} {fd : FuncData} (F : Fun K "_law_make" "_law_make" S__law_make f fd) (cX : CalC P w K mg base 3 "Exact" C (spEx C CB)) : FnOk P w K mg base (L2N.CX P w) 5 f fd ["base", "x"] (spMakeL C) := by
  have S := nk__law_make
  refine F.okN sc__law_make (fun vs H Q E h => ?_) (fun cdv A outer s H vs Q E hr h => ?_)
  · obtain ⟨q, b, c, e, N, rfl, _⟩ := h; rfl
  · obtain ⟨q, b, c, e, N, rfl, hq, h1, h2, h3, h4, hQ⟩ := h
    show ZSs _ _ _ _ _ _ [some (.int b), some (.ref q)] H
    fail "z0"
    rename_i p dx np nd nn
    refine ex_do np nd nn h1 h2 h3 h4 fun H' c' e' s hx => ⟨rfl, hQ p H' c' e' s np hx⟩
/-- the object p is what the tuple q tells -/
def IsE (C : Addr) (H : Hp) (b : Int) (v x : V) : Prop := ∃ (p q : Addr) (c e c' e' : Int), v = .ref p ∧ x = .ref q ∧ ExF C H p b c' e' ∧ H q = some (.tup [.int c, .int e]) ∧ Low b c e c' e' ∧ Bd 8000 c
theorem IsE.same {C : Addr} {H H' : Hp} {b : Int} {v x : V} (h : IsE C H b v x) (s : Same H H') : IsE C H' b v x := by
  obtain ⟨p, q, c, e, c', e', rfl, rfl, h1, h2, h3⟩ := h
  exact ⟨p, q, c, e, c', e', rfl, rfl, h1.same s, s _ _ h2, h3⟩
theorem IsE.of {C : Addr} {H : Hp} {p q : Addr} {b c e c' e' c2 e2 : Int} (hb : 2 ≤ b) (x : ExAt C H p b c e c' e') (hq : H q = some (.tup [.int c2, .int e2])) (l : Low b c e c2 e2) (h : Bd 8000 c2) : IsE C H b (.ref p) (.ref q) := by
  obtain ⟨rfl, rfl⟩ := x.2.one hb l
  exact ⟨p, q, c', e', c', e', rfl, rfl, x.1, hq, (l.f hb).low, h⟩
def spIs (C : Addr) : Sp := fun vs H Q _ => ∃ (v x : V) (b : Int), vs = [v, .int b, x] ∧ 2 ≤ b ∧ b ≤ 36 ∧ IsE C H b v x ∧ ∀ H', Same H H' → Q (.bl true) H'
theorem is_do {C : Addr} {v x : V} {b : Int} {H : Hp} {Q : VK} {E : XK} (h1 : 2 ≤ b) (h2 : b ≤ 36) (h : IsE C H b v x) (q : ∀ H', Same H H' → Q (.bl true) H') : spIs C [v, .int b, x] H Q E := ⟨v, x, b, rfl, h1, h2, h, q⟩
theorem ok_is {f C : Addr} {fd : FuncData} (F : Fun K "_law_is" "_law_is" S__law_is f fd) (B : Blt mg) (T : ExTxt K C) (gE : mg "Exact" = some (.ref C)) (cL : Cal P w K mg base 2 "_law_lowest" spLowest) (cE : Cal P w K mg base 2 "_law_equal" (spEq K 1)) : FnOk P w K mg base (L2N.CX P w) 3 f fd ["value", "base", "x"] (spIs C) := by
  have S := nk__law_is
  obtain ⟨I, nb, nc, ne⟩ := T
  have cl := I.cl
  refine F.okN sc__law_is (fun vs H Q E h => ?_) (fun cdv A outer s H vs Q E hr h => ?_)
  · obtain ⟨v, x, b, rfl, _⟩ := h; rfl
  · obtain ⟨v, x, b, rfl, h1, h2, ⟨p, q, c, e, c', e', rfl, rfl, ⟨dx, hp⟩, hq, low, hb⟩, hQ⟩ := h
    show ZSs _ _ _ _ _ _ [some (.ref p), some (.int b), some (.ref q), none] H
    unfold fsE at hp
    fail "z0"
    refine lowest_do h1 h2 hb (by omega) (fun r c2 e2 H1 low2 s1 nr hr2 => ?_)
    obtain ⟨rfl, rfl⟩ := low2.one h1 low
    fail "za"
    refine equal_do (.lstS (SqL.of (by fail "zh")) (SqL.of (by fail "zh")) (Nat.le_of_ble_eq_true rfl) (by fail "zsc")) ?_
    exact hQ _ (by fail "zsm")

/-- the number of digits of c in base b -/
def Dig (b c : Int) (D : Nat) : Prop := (c = 0 ∧ D = 0) ∨ (c ≠ 0 ∧ ∃ k, D = k + 1 ∧ b ^ k ≤ (c.natAbs : Int) ∧ (c.natAbs : Int) < b ^ (k + 1))
def spDig : Sp := fun vs H Q _ => ∃ (b c : Int) (N : Nat), vs = [.int b, .int c] ∧ 2 ≤ b ∧ b ≤ 36 ∧ Bd N c ∧ N ≤ 8000 ∧ ∀ D H', Dig b c D → Same H H' → Q (.int D) H'
theorem dig_do {b c : Int} {N : Nat} {H : Hp} {Q : VK} {E : XK} (h1 : 2 ≤ b) (h2 : b ≤ 36) (h3 : Bd N c) (h4 : N ≤ 8000) (h : ∀ D H', Dig b c D → Same H H' → Q (.int D) H') : spDig [.int b, .int c] H Q E := ⟨b, c, N, rfl, h1, h2, h3, h4, h⟩
theorem Dig.one {b c : Int} {D1 D2 : Nat} (hb : 2 ≤ b) (h1 : Dig b c D1) (h2 : Dig b c D2) : D1 = D2 := by
  have key : ∀ {k l : Nat}, b ^ k ≤ (c.natAbs : Int) → (c.natAbs : Int) < b ^ (l + 1) → k ≤ l := fun {k l} a z => by
    have lt := Int.lt_of_le_of_lt a z
    by_cases h : k ≤ l
    · exact h
    · exfalso
      have p1 : (0 : Int) < b ^ (l + 1) := Int.pow_pos (by omega)
      have p2 : (0 : Int) < b ^ (k - (l + 1)) := Int.pow_pos (by omega)
      have m := Int.mul_le_mul_of_nonneg_left (Int.add_one_le_of_lt p2) (Int.le_of_lt p1)
      rw [Int.zero_add, Int.mul_one, ← Int.pow_add, show l + 1 + (k - (l + 1)) = k by omega] at m
      exact absurd lt (Int.not_lt.mpr m)
  rcases h1 with ⟨c0, rfl⟩ | ⟨c0, k, rfl, a1, a2⟩ <;> rcases h2 with ⟨d0, rfl⟩ | ⟨d0, l, rfl, b1, b2⟩
  · rfl
  · exact absurd c0 d0
  · exact absurd d0 c0
  · have := key a1 b2; have := key b1 a2; omega
theorem Dig.shift {b c c' : Int} {k j : Nat} (hb : 2 ≤ b) (e : c' * b ^ k = c) (h1 : b ^ j ≤ (c'.natAbs : Int)) (h2 : (c'.natAbs : Int) < b ^ (j + 1)) : b ^ (k + j) ≤ (c.natAbs : Int) ∧ (c.natAbs : Int) < b ^ (k + j + 1) := by
  have pk : (0 : Int) < b ^ k := Int.pow_pos (by omega)
  have en : (c.natAbs : Int) = c'.natAbs * b ^ k := by
    rw [← e, Int.natAbs_mul, Int.natAbs_pow]
    push_cast
    rw [show ((b.natAbs : Nat) : Int) = b by omega]
  have m1 := Int.mul_le_mul_of_nonneg_right h1 (Int.le_of_lt pk)
  have m2 := Int.mul_lt_mul_of_pos_right h2 pk
  rw [en, Nat.add_assoc, Int.pow_add, Int.pow_add, Int.mul_comm (b ^ k), Int.mul_comm (b ^ k)]
  exact ⟨m1, m2⟩
theorem abs_nat (c : Int) : (if c < 0 then -c else c) = (c.natAbs : Int) := by split <;> omega
section
local macro_rules | `(tactic| fail "zP") => `(tactic| (with_reducible refine pow_do (n := _) (t := 2) ?_ ?_ ?_))
theorem ok_dig {f : Addr} {fd : FuncData} (F : Fun K "count_digits" "count_digits" S_count_digits f fd) (B : Blt mg) (cP : Cal P w K mg base 1 "power" spPow) (cS : Cal P w K mg base 1 "squares_up_to" spSqs) : FnOk P w K mg base (L2N.CX P w) 2 f fd ["base", "coefficient"] spDig := by
  have S := nk_count_digits
  refine F.okN sc_count_digits (fun vs H Q E h => ?_) (fun cdv A outer s H vs Q E hr h => ?_)
  · obtain ⟨b, z, N, rfl, _⟩ := h; rfl
  · obtain ⟨b, c, N, rfl, h1, h2, h4, h5, hQ⟩ := h
    show ZSs _ _ _ _ _ _ [some (.int b), some (.int c), none, none, none, none] H
    fail "z0"
    all_goals rw [abs_nat] at *
    · rename_i h
      exact hQ 0 _ (.inl ⟨by omega, rfl⟩) (Same.refl _)
    rename_i c0
    have h4' : Bd N (c.natAbs : Int) := by unfold Bd at *; omega
    refine sqs_do (N := N) h1 h2 (by omega) h4' (by omega) (fun m ps H1 nps s1 hps hm hbig => ?_)
    fail "za"
    refine zs_forRev pass_def rfl B.range B.rev ?_
    fail "za"
    rw [sqs_len]
    refine ⟨by omega, fun i σ H' => ∃ (r e : Nat) (o : Option V), i ≤ m ∧ σ = [some (.int b), some (.int c), some (.int r), some (.ref ps), some (.int ((e + 1 : Nat) : Int)), o] ∧ H' = H1 ∧ 1 ≤ r ∧ (r : Int) * b ^ e ≤ c.natAbs ∧ (c.natAbs : Int) < (r + 1) * b ^ e ∧ (r : Int) < b ^ (2 ^ (m - i)) ∧ Bd N r, ⟨c.natAbs, 0, none, Nat.zero_le _, rfl, rfl, by omega, by rw [Int.pow_zero]; omega, by rw [Int.pow_zero]; omega, hbig, h4'⟩, ?_, ?_⟩
    · rintro i σ H' hi ⟨r, e, o, _, rfl, rfl, r1, hlo, hhi, hlt, hbr⟩
      have hx : (sqs b m)[m - 1 - i]? = some (.int (b ^ (2 ^ (m - 1 - i)))) := by
        unfold sqs
        rw [List.getElem?_map, List.getElem?_range (by omega)]; rfl
      have hs0 : 0 < b ^ (2 ^ (m - 1 - i)) := Int.pow_pos (by omega)
      have e2 : b ^ (2 ^ (m - i)) = b ^ (2 ^ (m - 1 - i)) * b ^ (2 ^ (m - 1 - i)) := by
        rw [show m - i = (m - 1 - i) + 1 by omega, Nat.pow_succ, Nat.mul_two, Int.pow_add]
      rw [e2] at hlt
      have e3 : m - (i + 1) = m - 1 - i := by omega
      fail "za"
      refine xw_lst (SqL.of hps) (atI_nat hx) ?_
      fail "za"
      · rename_i hge
        have bs : Bd N (b ^ (2 ^ (m - 1 - i))) := Bd.le (by omega) hge hbr
        refine xw_lst (SqL.of hps) (atI_nat hx) ?_
        fail "za"
        · exact ⟨hs0, Nat.lt_of_le_of_lt bs.log (by omega)⟩
        · unfold Bd; decide
        · omega
        · generalize ht : b ^ (2 ^ (m - 1 - i)) = t at *
          have hq := Int.mul_ediv_add_emod (r : Int) t
          have hm0 := Int.emod_nonneg (r : Int) (show t ≠ 0 by omega)
          have hm9 := Int.emod_lt_of_pos (r : Int) hs0
          have q1 : 1 ≤ (r : Int) / t := (Int.le_ediv_iff_mul_le hs0).mpr (by omega)
          have q9 : (r : Int) / t < t := (Int.ediv_lt_iff_lt_mul hs0).mpr hlt
          obtain ⟨q, hqn⟩ := Int.eq_ofNat_of_zero_le (show 0 ≤ (r : Int) / t by omega)
          rw [hqn] at hq q1 q9 ⊢
          have pe : (0 : Int) < b ^ e := Int.pow_pos (by omega)
          have tq : t * q ≤ r := by omega
          have tq2 : (r : Int) + 1 ≤ t * q + t := by omega
          have m1 := Int.mul_le_mul_of_nonneg_right tq (Int.le_of_lt pe)
          have m2 := Int.mul_le_mul_of_nonneg_right tq2 (Int.le_of_lt pe)
          refine ⟨q, e + 2 ^ (m - 1 - i), _, hi, by push_cast; rw [show ((e : Int) + 1 + 2 ^ (m - 1 - i)) = ((e : Int) + 2 ^ (m - 1 - i) + 1) by omega], rfl, by omega, ?_, ?_, ?_, ?_⟩
          · rw [Int.pow_add, ht, Int.mul_comm (b ^ e), ← Int.mul_assoc, Int.mul_comm (q : Int) t]
            exact Int.le_trans m1 hlo
          · rw [Int.pow_add, ht, Int.mul_comm (b ^ e), ← Int.mul_assoc, Int.add_mul, Int.one_mul, Int.mul_comm (q : Int) t]
            exact Int.lt_of_lt_of_le hhi m2
          · rw [e3, ht]; exact q9
          · refine Bd.le (by omega) ?_ hbr
            have := Int.mul_le_mul_of_nonneg_right (show (1 : Int) ≤ t by omega) (show (0 : Int) ≤ q by omega)
            omega
      · rename_i hn
        exact ⟨r, e, _, hi, rfl, rfl, r1, hlo, hhi, by rw [e3]; omega, hbr⟩
    · rintro σ H' ⟨r, e, o, _, rfl, rfl, r1, hlo, hhi, hlt, hbr⟩
      fail "za"
      rw [Nat.sub_self, Nat.pow_zero, Int.pow_succ, Int.pow_zero, Int.one_mul] at hlt
      have pe : (0 : Int) < b ^ e := Int.pow_pos (by omega)
      have m1 := Int.mul_le_mul_of_nonneg_right (show (1 : Int) ≤ r by omega) (Int.le_of_lt pe)
      have m2 := Int.mul_le_mul_of_nonneg_right (show (r : Int) + 1 ≤ b by omega) (Int.le_of_lt pe)
      refine hQ (e + 1) _ (.inr ⟨by omega, e, rfl, by omega, ?_⟩) (by fail "zsm")
      rw [Int.pow_succ, Int.mul_comm (b ^ e)]
      omega
end

def sgnI (c : Int) : Int := if 0 < c then 1 else if c < 0 then -1 else 0
theorem sgnI_pos (c : Int) : (0 < sgnI c ↔ 0 < c) ∧ (sgnI c < 0 ↔ c < 0) ∧ (sgnI c = 0 ↔ c = 0) := by unfold sgnI; split <;> (try split) <;> omega
def spSign (C : Addr) : Sp := fun vs H Q _ => ∃ (p : Addr) (b c e : Int), vs = [.ref p] ∧ ExF C H p b c e ∧ Q (.int (sgnI c)) H
theorem sign_do {C p : Addr} {b c e : Int} {H : Hp} {Q : VK} {E : XK} (h : ExF C H p b c e) (q : Q (.int (sgnI c)) H) : spSign C [.ref p] H Q E := ⟨p, b, c, e, rfl, h, q⟩
theorem ok_sign {f C : Addr} {fd : FuncData} (F : Fun K "sign" "Exact.sign" S_Exact_sign f fd) (T : ExTxt K C) : FnOk P w K mg base (L2N.CX P w) 1 f fd ["self"] (spSign C) := by
  have S := nk_Exact_sign
  obtain ⟨I, nb, nc, ne⟩ := T
  have cl := I.cl
  refine F.okN sc_Exact_sign (fun vs H Q E h => ?_) (fun cdv A outer s H vs Q E hr h => ?_)
  · obtain ⟨p, b, c, e, rfl, _⟩ := h; rfl
  · obtain ⟨p, b, c, e, rfl, ⟨dx, hp⟩, hQ⟩ := h
    show ZSs _ _ _ _ _ _ [some (.ref p)] H
    unfold fsE at hp
    unfold sgnI at hQ
    fail "z0"
    · rwa [if_pos (by assumption)] at hQ
    · rwa [if_neg (by assumption), if_pos (by assumption)] at hQ
    · rwa [if_neg (by assumption), if_neg (by assumption)] at hQ
def spDigits (C : Addr) : Sp := fun vs H Q _ => ∃ (p : Addr) (b c e : Int) (N : Nat), vs = [.ref p] ∧ ExF C H p b c e ∧ 2 ≤ b ∧ b ≤ 36 ∧ Bd N c ∧ N ≤ 8000 ∧ ∀ D H', Dig b c D → Same H H' → Q (.int D) H'
theorem digits_do {C p : Addr} {b c e : Int} {N : Nat} {H : Hp} {Q : VK} {E : XK} (h : ExF C H p b c e) (h1 : 2 ≤ b) (h2 : b ≤ 36) (h3 : Bd N c) (h4 : N ≤ 8000) (q : ∀ D H', Dig b c D → Same H H' → Q (.int D) H') : spDigits C [.ref p] H Q E := ⟨p, b, c, e, N, rfl, h, h1, h2, h3, h4, q⟩
theorem ok_digits {f C : Addr} {fd : FuncData} (F : Fun K "digits" "Exact.digits" S_Exact_digits f fd) (T : ExTxt K C) (cD : Cal P w K mg base 2 "count_digits" spDig) : FnOk P w K mg base (L2N.CX P w) 3 f fd ["self"] (spDigits C) := by
  have S := nk_Exact_digits
  obtain ⟨I, nb, nc, ne⟩ := T
  have cl := I.cl
  refine F.okN sc_Exact_digits (fun vs H Q E h => ?_) (fun cdv A outer s H vs Q E hr h => ?_)
  · obtain ⟨p, b, c, e, N, rfl, _⟩ := h; rfl
  · obtain ⟨p, b, c, e, N, rfl, ⟨dx, hp⟩, h1, h2, h3, h4, hQ⟩ := h
    show ZSs _ _ _ _ _ _ [some (.ref p)] H
    unfold fsE at hp
    fail "z0"
    exact dig_do h1 h2 h3 h4 hQ

def spPlace (C : Addr) : Sp := fun vs H Q _ => ∃ (p : Addr) (b c e : Int) (N : Nat), vs = [.ref p] ∧ ExF C H p b c e ∧ 2 ≤ b ∧ b ≤ 36 ∧ Bd N c ∧ N ≤ 8000 ∧ (c = 0 → Q .non H) ∧ ∀ k H', c ≠ 0 → Dig b c (k + 1) → Same H H' → Q (.int (e + k)) H'
theorem place_do {C p : Addr} {b c e : Int} {N : Nat} {H : Hp} {Q : VK} {E : XK} (h : ExF C H p b c e) (h1 : 2 ≤ b) (h2 : b ≤ 36) (h3 : Bd N c) (h4 : N ≤ 8000) (q0 : c = 0 → Q .non H) (q : ∀ (k : Nat) H', c ≠ 0 → Dig b c (k + 1) → Same H H' → Q (.int (e + k)) H') : spPlace C [.ref p] H Q E := ⟨p, b, c, e, N, rfl, h, h1, h2, h3, h4, q0, q⟩
theorem ok_place {f C : Addr} {fd : FuncData} (F : Fun K "place" "Exact.place" S_Exact_place f fd) (T : ExTxt K C) (cD : Cal P w K mg base 2 "count_digits" spDig) : FnOk P w K mg base (L2N.CX P w) 3 f fd ["self"] (spPlace C) := by
  have S := nk_Exact_place
  obtain ⟨I, nb, nc, ne⟩ := T
  have cl := I.cl
  refine F.okN sc_Exact_place (fun vs H Q E h => ?_) (fun cdv A outer s H vs Q E hr h => ?_)
  · obtain ⟨p, b, c, e, N, rfl, _⟩ := h; rfl
  · obtain ⟨p, b, c, e, N, rfl, ⟨dx, hp⟩, h1, h2, h3, h4, hQ0, hQ⟩ := h
    show ZSs _ _ _ _ _ _ [some (.ref p)] H
    unfold fsE at hp
    fail "z0"
    · exact hQ0 (by assumption)
    · rename_i c0
      refine dig_do h1 h2 h3 h4 (fun D H' hd s => ?_)
      fail "za"
      rcases hd with ⟨z, _⟩ | ⟨_, k, rfl, hk⟩
      · exact absurd z c0
      · rw [show e + ((k + 1 : Nat) : Int) - 1 = e + k by push_cast; omega]
        exact hQ k _ c0 (.inr ⟨c0, k, rfl, hk⟩) s

/-! values at a common exponent -/
/-- the value of c * b^e in units of b^m -/
def Vl (b m c e : Int) : Int := c * b ^ (e - m).toNat
theorem Vl_zero {b m e : Int} : Vl b m 0 e = 0 := Int.zero_mul _
theorem Vl_self {b c e : Int} : Vl b e c e = c := by unfold Vl; rw [Int.sub_self]; simp
theorem Vl_neg {b m c e : Int} : Vl b m (-c) e = - Vl b m c e := Int.neg_mul ..
theorem Vl_mul {b m c e k : Int} : Vl b m (c * k) e = Vl b m c e * k := by unfold Vl; rw [Int.mul_right_comm]
theorem Vl_shift {b m x c e : Int} (h1 : m ≤ x) (h2 : c = 0 ∨ x ≤ e) : Vl b m c e = Vl b x c e * b ^ (x - m).toNat := by
  unfold Vl
  rcases h2 with rfl | h2
  · simp
  · rw [Int.mul_assoc, ← Int.pow_add, show (e - m).toNat = (e - x).toNat + (x - m).toNat by omega]
theorem Low.vl {b c e c' e' m : Int} (h : Low b c e c' e') (hm : c = 0 ∨ m ≤ e) : Vl b m c' e' = Vl b m c e := by
  rcases h with ⟨rfl, rfl, rfl⟩ | ⟨c0, k, hk, nk, rfl⟩
  · rw [Vl_zero, Vl_zero]
  · have hm := hm.resolve_left c0
    unfold Vl
    rw [← hk, Int.mul_assoc, ← Int.pow_add, show (e + k - m).toNat = k + (e - m).toNat by omega]
theorem Low.ge {b c e c' e' m : Int} (h : Low b c e c' e') (hm : c = 0 ∨ m ≤ e) : c' = 0 ∨ m ≤ e' := by
  rcases h with ⟨rfl, rfl, rfl⟩ | ⟨c0, k, hk, nk, rfl⟩
  · exact .inl rfl
  · exact .inr (by have := hm.resolve_left c0; omega)
theorem Vl_pos {b m c e : Int} (hb : 2 ≤ b) : (0 < Vl b m c e ↔ 0 < c) ∧ (Vl b m c e < 0 ↔ c < 0) ∧ (Vl b m c e = 0 ↔ c = 0) := by
  have pk : (0 : Int) < b ^ (e - m).toNat := Int.pow_pos (by omega)
  unfold Vl
  generalize b ^ (e - m).toNat = t at *
  rcases Int.lt_trichotomy c 0 with h | h | h
  · have := Int.mul_neg_of_neg_of_pos h pk; omega
  · subst h; simp
  · have := Int.mul_pos h pk; omega
theorem LowF.inj {b m c e d g : Int} (hb : 2 ≤ b) (h1 : LowF b c e) (h2 : LowF b d g) (m1 : c = 0 ∨ m ≤ e) (m2 : d = 0 ∨ m ≤ g) (h : Vl b m c e = Vl b m d g) : c = d ∧ e = g := by
  rcases h1 with ⟨rfl, rfl⟩ | ⟨c0, nc⟩
  · rw [Vl_zero] at h
    have d0 := (Vl_pos (e := g) (m := m) hb).2.2.mp h.symm
    subst d0
    rcases h2 with ⟨_, rfl⟩ | ⟨z, _⟩
    · exact ⟨rfl, rfl⟩
    · exact absurd rfl z
  · have d0 : d ≠ 0 := fun z => by
      rw [z, Vl_zero] at h
      exact c0 ((Vl_pos (e := e) (m := m) hb).2.2.mp h)
    have nd := (h2.resolve_left fun z => d0 z.1).2
    have e1 := m1.resolve_left c0
    have g1 := m2.resolve_left d0
    have l1 : Low b (Vl b m c e) m c e := .inr ⟨fun z => c0 ((Vl_pos (e := e) (m := m) hb).2.2.mp z), (e - m).toNat, rfl, nc, by omega⟩
    have l2 : Low b (Vl b m c e) m d g := by
      rw [h]; exact .inr ⟨fun z => d0 ((Vl_pos (e := g) (m := m) hb).2.2.mp z), (g - m).toNat, rfl, nd, by omega⟩
    exact l1.one hb l2
theorem Vl_sm {b m c e : Int} {N L : Nat} (hb : 2 ≤ b) (h : Sm b N c) (l : e - m ≤ L) : Sm b (N + L) (Vl b m c e) :=
  (h.mulp (by omega) _).mono (by omega) (by omega)
theorem Sm.zero {b : Int} {n : Nat} (hb : 2 ≤ b) : Sm b n 0 := by unfold Sm; exact Nat.pow_pos (by omega)
theorem Bd.sm {b c : Int} {N : Nat} (h : Bd N c) (hb : 2 ≤ b) : Sm b N c := Nat.lt_of_lt_of_le h (Nat.pow_le_pow_left (by omega) _)
theorem Sm.addS {b f s h : Int} {N : Nat} (hb : 2 ≤ b) (h1 : Sm b N f) (h2 : Sm b N h) (hs : s.natAbs ≤ 1) : Sm b (N + 1) (f + s * h) := by
  unfold Sm at *
  rw [Nat.pow_succ]
  have m : (s * h).natAbs ≤ h.natAbs := by
    rw [Int.natAbs_mul]
    have := Nat.mul_le_mul_right h.natAbs hs
    omega
  have h3 : b.natAbs ^ N * 2 ≤ b.natAbs ^ N * b.natAbs := Nat.mul_le_mul_left _ (by omega)
  omega
theorem Sm.mul {b c d : Int} {n m : Nat} (h : Sm b n c) (k : Sm b m d) : Sm b (n + m) (c * d) := by
  unfold Sm at *
  rw [Int.natAbs_mul, Nat.pow_add]
  exact Nat.mul_lt_mul'' h k
/-- two numbers brought to a common exponent x -/
def Al (b c e d g f s x : Int) : Prop := f = Vl b x c e ∧ s = Vl b x d g ∧ (c = 0 ∨ x ≤ e) ∧ (d = 0 ∨ x ≤ g) ∧ (x = e ∨ x = g) ∧ (c = 0 → x = g) ∧ (d = 0 → c ≠ 0 → x = e)
theorem Al.comb {b c e d g f h x s c' e' m : Int} (al : Al b c e d g f h x) (l : Low b (f + s * h) x c' e') (m1 : c = 0 ∨ m ≤ e) (m2 : d = 0 ∨ m ≤ g) : (c' = 0 ∨ m ≤ e') ∧ Vl b m c' e' = Vl b m c e + s * Vl b m d g := by
  obtain ⟨rfl, rfl, a3, a4, a5, a6, a7⟩ := al
  by_cases z : c = 0 ∧ d = 0
  · obtain ⟨rfl, rfl⟩ := z
    simp only [Vl_zero, Int.mul_zero, Int.add_zero] at *
    rcases l with ⟨_, rfl, rfl⟩ | ⟨n, _⟩
    · exact ⟨.inl rfl, Vl_zero⟩
    · exact absurd rfl n
  · have mx : m ≤ x := by
      by_cases c0 : c = 0
      · rw [a6 c0]; exact m2.resolve_left fun d0 => z ⟨c0, d0⟩
      · by_cases d0 : d = 0
        · rw [a7 d0 c0]; exact m1.resolve_left c0
        · rcases a5 with h | h
          · rw [h]; exact m1.resolve_left c0
          · rw [h]; exact m2.resolve_left d0
    refine ⟨l.ge (.inr mx), ?_⟩
    rw [l.vl (.inr mx), Vl_shift mx a3, Vl_shift mx a4, ← Int.mul_assoc, ← Int.add_mul]
    rfl
def minI (e g : Int) : Int := if g < e then g else e
theorem minI_le (e g : Int) : minI e g ≤ e ∧ minI e g ≤ g ∧ (minI e g = e ∨ minI e g = g) := by unfold minI; split <;> omega
/-- a pair of exact numbers of one base as an operator takes them -/
structure Two (C : Addr) (H : Hp) (p q : Addr) (b c e d g : Int) (N L : Nat) : Prop where
  l : ExF C H p b c e
  r : ExF C H q b d g
  b1 : 2 ≤ b
  b9 : b ≤ 36
  n1 : Sm b N c
  n2 : Sm b N d
  df : c ≠ 0 → d ≠ 0 → e - g ≤ L ∧ g - e ≤ L
  sz : N + L < 1300
theorem Two.same {C : Addr} {H H' : Hp} {p q : Addr} {b c e d g : Int} {N L : Nat} (h : Two C H p q b c e d g N L) (s : Same H H') : Two C H' p q b c e d g N L := ⟨h.l.same s, h.r.same s, h.b1, h.b9, h.n1, h.n2, h.df, h.sz⟩
/-- a pair of two bases -/
structure Mix (C CM : Addr) (H : Hp) (p q : Addr) (E : XK) : Prop where
  ex : ∃ b c e b2 d g, ExF C H p b c e ∧ ExF C H q b2 d g ∧ b ≠ b2 ∧ ∀ x H', Same H H' → NoA H x → H' x = some (.xd [("right", .int b2), ("left", .int b)]) → E (.ref CM) (some x) H'
theorem Mix.of {C CM : Addr} {H : Hp} {p q : Addr} {E : XK} {b c e b2 d g : Int} (h1 : ExF C H p b c e) (h2 : ExF C H q b2 d g) (n : b ≠ b2) (k : ∀ x H', Same H H' → NoA H x → H' x = some (.xd [("right", .int b2), ("left", .int b)]) → E (.ref CM) (some x) H') : Mix C CM H p q E := ⟨b, c, e, b2, d, g, h1, h2, n, k⟩
theorem Mix.imp {C CM : Addr} {H H' : Hp} {p q : Addr} {E E' : XK} (h : Mix C CM H p q E) (s : Same H H') (k : ∀ c d H2, E c d H2 → E' c d H2) : Mix C CM H' p q E' := by
  obtain ⟨b, c, e, b2, d, g, h1, h2, n, hk⟩ := h
  exact ⟨b, c, e, b2, d, g, h1.same s, h2.same s, n, fun x H2 s2 nx hx => k _ _ _ (hk x H2 (s.trans s2) ⟨nx.free s⟩ hx)⟩
def spAl (C CM : Addr) : Sp := fun vs H Q E => ∃ (p q : Addr), vs = [.ref p, .ref q] ∧
  ((∃ (b c e d g : Int) (N L : Nat), Two C H p q b c e d g N L ∧ ∀ r f s x H', Same H H' → NoA H r → H' r = some (.tup [.int f, .int s, .int x]) → Al b c e d g f s x → Sm b (N + L) f → Sm b (N + L) s → Q (.ref r) H') ∨ Mix C CM H p q E)
theorem Two.al {C CM p q : Addr} {b c e d g : Int} {N L : Nat} {H : Hp} {Q : VK} {E : XK} (t : Two C H p q b c e d g N L) (k : ∀ r f s x H', Same H H' → NoA H r → H' r = some (.tup [.int f, .int s, .int x]) → Al b c e d g f s x → Sm b (N + L) f → Sm b (N + L) s → Q (.ref r) H') : spAl C CM [.ref p, .ref q] H Q E := ⟨p, q, rfl, .inl ⟨b, c, e, d, g, N, L, t, k⟩⟩
theorem Mix.al {C CM p q : Addr} {H : Hp} {Q : VK} {E : XK} (m : Mix C CM H p q E) : spAl C CM [.ref p, .ref q] H Q E := ⟨p, q, rfl, .inr m⟩
section
local macro_rules | `(tactic| fail "zP") => `(tactic| (with_reducible refine pow_do (n := _) (t := 6) ?_ ?_ ?_))
theorem ok_al {f C CM : Addr} {fd : FuncData} (F : Fun K "aligned" "aligned" S_aligned f fd) (T : ExTxt K C) (cP : Cal P w K mg base 1 "power" spPow) (cM : XCls P K mg "MixedBases" CM ["left", "right"]) : FnOk P w K mg base (L2N.CX P w) 3 f fd ["left", "right"] (spAl C CM) := by
  have S := nk_aligned
  obtain ⟨I, nb, nc, ne⟩ := T
  have cl := I.cl
  refine F.okN sc_aligned (fun vs H Q E h => ?_) (fun cdv A outer s H vs Q E hr h => ?_)
  · obtain ⟨p, q, rfl, _⟩ := h; rfl
  · obtain ⟨p, q, rfl, hh⟩ := h
    obtain ⟨b, c, e, b2, d, g, ⟨dx, hp⟩, ⟨dy, hq⟩⟩ : ∃ b c e b2 d g, ExF C H p b c e ∧ ExF C H q b2 d g := by
      rcases hh with ⟨b, c, e, d, g, N, L, t, _⟩ | ⟨b, c, e, b2, d, g, h1, h2, _⟩
      · exact ⟨_, _, _, _, _, _, t.l, t.r⟩
      · exact ⟨_, _, _, _, _, _, h1, h2⟩
    have two : b = b2 → ∃ (N L : Nat), 2 ≤ b ∧ b ≤ 36 ∧ Sm b N c ∧ Sm b N d ∧ (c ≠ 0 → d ≠ 0 → e - g ≤ L ∧ g - e ≤ L) ∧ N + L < 1300 ∧ ∀ r f s x H', Same H H' → NoA H r → H' r = some (.tup [.int f, .int s, .int x]) → Al b c e d g f s x → Sm b (N + L) f → Sm b (N + L) s → Q (.ref r) H' := by
      intro eb
      subst eb
      rcases hh with ⟨b', c', e', d', g', N, L, t, k⟩ | ⟨b', c', e', b2', d', g', ⟨_, h1⟩, ⟨_, h2⟩, n, _⟩
      · obtain ⟨_, l⟩ := t.l
        obtain ⟨_, r⟩ := t.r
        rw [hp] at l; rw [hq] at r
        unfold fsE at l r
        cases l; cases r
        exact ⟨N, L, t.b1, t.b9, t.n1, t.n2, t.df, t.sz, k⟩
      · rw [hp] at h1; rw [hq] at h2
        unfold fsE at h1 h2
        cases h1; cases h2
        exact absurd rfl n
    have mix : b ≠ b2 → ∀ x, NoA H x → E (.ref CM) (some x) (upd H x (.xd [("right", .int b2), ("left", .int b)])) := by
      intro nb x nx
      rcases hh with ⟨b', c', e', d', g', N, L, t, k⟩ | ⟨b', c', e', b2', d', g', ⟨_, h1⟩, ⟨_, h2⟩, n, k⟩
      · obtain ⟨_, l⟩ := t.l
        obtain ⟨_, r⟩ := t.r
        rw [hp] at l; rw [hq] at r
        unfold fsE at l r
        cases l; cases r
        exact absurd rfl nb
      · rw [hp] at h1; rw [hq] at h2
        unfold fsE at h1 h2
        cases h1; cases h2
        exact k x _ (.put (.refl _) nx.e) nx upd_same
    unfold fsE at hp hq
    clear hh
    show ZSs _ _ _ _ _ _ [some (.ref p), some (.ref q), none] H
    fail "z0"
    · exact mix (by assumption) _ (by assumption)
    · rename_i hb hc r nr
      obtain ⟨N, L, b1, b9, n1, n2, l, z, hQ⟩ := two hb
      subst hb
      subst hc
      exact hQ r 0 d g _ (by fail "zsm") nr upd_same ⟨Vl_zero.symm, Vl_self.symm, .inl rfl, .inr (Int.le_refl _), .inr rfl, fun _ => rfl, fun _ h => absurd rfl h⟩ (Sm.zero b1) (n2.mono (by omega) (by omega))
    · rename_i hb hc hd r nr
      obtain ⟨N, L, b1, b9, n1, n2, l, z, hQ⟩ := two hb
      subst hb
      subst hd
      exact hQ r c 0 e _ (by fail "zsm") nr upd_same ⟨Vl_self.symm, Vl_zero.symm, .inr (Int.le_refl _), .inl rfl, .inl rfl, fun h => absurd h hc, fun _ _ => rfl⟩ (n1.mono (by omega) (by omega)) (Sm.zero b1)
    · rename_i hb hc hd hm
      obtain ⟨N, L, b1, b9, n1, n2, l, z, hQ⟩ := two hb
      subst hb
      have bb : Bd 6 b := by unfold Bd; omega
      have ll := l hc hd
      rw [show e - g = (((e - g).toNat : Nat) : Int) by omega]
      have hL : 6 * (e - g).toNat ≤ 6 * L := Nat.mul_le_mul_left 6 (by omega)
      refine pow_do (n := (e - g).toNat) (t := 6) bb (by omega) ?_
      have bv := Vl_sm (m := g) (e := e) (L := L) b1 n1 (by omega)
      have n1' := n1.bd (by omega) b9
      fail "za"
      all_goals try exact n1'.cmul (bb.pow _) (by omega)
      rename_i r nr
      exact hQ r _ d g _ (by fail "zsm") nr upd_same ⟨rfl, Vl_self.symm, .inr (by omega), .inr (Int.le_refl _), .inr rfl, fun h => absurd h hc, fun h => absurd h hd⟩ bv (n2.mono (by omega) (by omega))
    · rename_i hb hc hd hm
      obtain ⟨N, L, b1, b9, n1, n2, l, z, hQ⟩ := two hb
      subst hb
      have bb : Bd 6 b := by unfold Bd; omega
      have ll := l hc hd
      rw [show -(e - g) = (((g - e).toNat : Nat) : Int) by omega]
      have hL : 6 * (g - e).toNat ≤ 6 * L := Nat.mul_le_mul_left 6 (by omega)
      refine pow_do (n := (g - e).toNat) (t := 6) bb (by omega) ?_
      have bv := Vl_sm (m := e) (e := g) (L := L) b1 n2 (by omega)
      have n2' := n2.bd (by omega) b9
      fail "za"
      all_goals try exact n2'.cmul (bb.pow _) (by omega)
      rename_i r nr
      exact hQ r c _ e _ (by fail "zsm") nr upd_same ⟨Vl_self.symm, rfl, .inr (Int.le_refl _), .inr (by omega), .inl rfl, fun h => absurd h hc, fun h => absurd h hd⟩ (n1.mono (by omega) (by omega)) bv
end
/-! taken, combined, multiplied, compared, quotient -/
def spTaken (C CB : Addr) : Sp := fun vs H Q _ => ∃ (p : Addr) (v : V), vs = [.ref p, v] ∧ ((∃ q dx fs, v = .ref q ∧ H q = some (.ins C dx fs) ∧ Q v H) ∨ (∃ (b c e i : Int) (N : Nat), v = .int i ∧ ExF C H p b c e ∧ 2 ≤ b ∧ b ≤ 36 ∧ Bd N i ∧ N ≤ 8000 ∧ ∀ q H' c' e', Same H H' → NoA H q → ExAt C H' q b i 0 c' e' → Q (.ref q) H'))
theorem taken_do {C CB p q dx : Addr} {fs : List (Str × V)} {H : Hp} {Q : VK} {E : XK} (h : H q = some (.ins C dx fs)) (k : Q (.ref q) H) : spTaken C CB [.ref p, .ref q] H Q E := ⟨p, .ref q, rfl, .inl ⟨q, dx, fs, rfl, h, k⟩⟩
theorem taken_int {C CB p : Addr} {b c e i : Int} {N : Nat} {H : Hp} {Q : VK} {E : XK} (h : ExF C H p b c e) (b1 : 2 ≤ b) (b2 : b ≤ 36) (n : Bd N i) (l : N ≤ 8000) (k : ∀ q H' c' e', Same H H' → NoA H q → ExAt C H' q b i 0 c' e' → Q (.ref q) H') : spTaken C CB [.ref p, .int i] H Q E := ⟨p, .int i, rfl, .inr ⟨b, c, e, i, N, rfl, h, b1, b2, n, l, k⟩⟩
theorem ok_taken {f C CB : Addr} {fd : FuncData} (F : Fun K "taken" "taken" S_taken f fd) (B : Blt mg) (T : ExTxt K C) (ki : PySem.W.kitOne K (.ref C) (.type "int") = some false) (cX : CalC P w K mg base 3 "Exact" C (spEx C CB)) : FnOk P w K mg base (L2N.CX P w) 5 f fd ["value", "other"] (spTaken C CB) := by
  have S := nk_taken
  obtain ⟨I, nb, nc, ne⟩ := T
  have cl := I.cl
  refine F.okN sc_taken (fun vs H Q E h => ?_) (fun cdv A outer s H vs Q E hr h => ?_)
  · obtain ⟨p, v, rfl, _⟩ := h; rfl
  · obtain ⟨p, v, rfl, ⟨q, dx, fs, rfl, hq, hQ⟩ | ⟨b, c, e, i, N, rfl, ⟨dx, hp⟩, b1, b2, n, l, hQ⟩⟩ := h
    · show ZSs _ _ _ _ _ _ [some (.ref p), some (.ref q)] H
      fail "z0"
      exact hQ
    · show ZSs _ _ _ _ _ _ [some (.ref p), some (.int i)] H
      unfold fsE at hp
      fail "z0"
      rename_i q d nq nd nn
      exact ex_do2 nq nd nn b1 b2 n l fun H' c' e' s hx => ⟨rfl, hQ q H' c' e' s nq hx⟩
def spComb (C CM : Addr) : Sp := fun vs H Q E => ∃ (p q : Addr) (s : Int), vs = [.ref p, .ref q, .int s] ∧ ((∃ (b c e d g : Int) (N L : Nat), Two C H p q b c e d g N L ∧ s.natAbs ≤ 1 ∧ ∀ r H' f h x c' e', Same H H' → NoA H r → Al b c e d g f h x → ExAt C H' r b (f + s * h) x c' e' → Sm b (N + L + 1) (f + s * h) → Q (.ref r) H') ∨ Mix C CM H p q E)
theorem Two.comb {C CM p q : Addr} {b c e d g s : Int} {N L : Nat} {H : Hp} {Q : VK} {E : XK} (t : Two C H p q b c e d g N L) (hs : s.natAbs ≤ 1) (k : ∀ r H' f h x c' e', Same H H' → NoA H r → Al b c e d g f h x → ExAt C H' r b (f + s * h) x c' e' → Sm b (N + L + 1) (f + s * h) → Q (.ref r) H') : spComb C CM [.ref p, .ref q, .int s] H Q E := ⟨p, q, s, rfl, .inl ⟨b, c, e, d, g, N, L, t, hs, k⟩⟩
theorem Mix.comb {C CM p q : Addr} {s : Int} {H : Hp} {Q : VK} {E : XK} (m : Mix C CM H p q E) : spComb C CM [.ref p, .ref q, .int s] H Q E := ⟨p, q, s, rfl, .inr m⟩
theorem ok_comb {f C CB CM : Addr} {fd : FuncData} (F : Fun K "combined" "combined" S_combined f fd) (T : ExTxt K C) (cA : Cal P w K mg base 3 "aligned" (spAl C CM)) (cX : CalC P w K mg base 3 "Exact" C (spEx C CB)) : FnOk P w K mg base (L2N.CX P w) 5 f fd ["left", "right", "sign"] (spComb C CM) := by
  have S := nk_combined
  obtain ⟨I, nb, nc, ne⟩ := T
  have cl := I.cl
  refine F.okN sc_combined (fun vs H Q E h => ?_) (fun cdv A outer s H vs Q E hr h => ?_)
  · obtain ⟨p, q, s, rfl, _⟩ := h; rfl
  · obtain ⟨p, q, s, rfl, ⟨b, c, e, d, g, N, L, t, hs, hQ⟩ | m⟩ := h
    · obtain ⟨dx, hp⟩ := id t.l
      unfold fsE at hp
      show ZSs _ _ _ _ _ _ [some (.ref p), some (.ref q), some (.int s), none, none, none] H
      fail "z0"
      refine t.al (fun r f h x H1 s1 nr hr2 al bf bh => ?_)
      have bs := Sm.addS t.b1 bf bh hs
      have sz := t.sz
      fail "za"
      rename_i a da na nd nn
      exact ex_do na nd nn t.b1 t.b9 (bs.bd (by have := t.b1; omega) t.b9) (by omega) fun H' c' e' s2 hx => ⟨rfl, hQ _ _ f h x c' e' (s1.trans s2) ⟨na.free s1⟩ al hx bs⟩
    · show ZSs _ _ _ _ _ _ [some (.ref p), some (.ref q), some (.int s), none, none, none] H
      fail "z0"
      exact (m.imp (.refl _) fun _ _ _ h => xw_def h).al
/-- floor division -/
def spQuot (C CM CQ : Addr) : Sp := fun vs H Q E => ∃ (p q : Addr), vs = [.ref p, .ref q] ∧ ((∃ (b c e d g : Int) (N L : Nat), Two C H p q b c e d g N L ∧ (∀ H' f h x, Same H H' → Al b c e d g f h x → h ≠ 0 → Sm b (N + L) f → Sm b (N + L) h → Q (.int (f.fdiv h)) H') ∧ (d = 0 → ∀ H', Same H H' → E (.ref CQ) none H')) ∨ Mix C CM H p q E)
theorem Two.quot {C CM CQ p q : Addr} {b c e d g : Int} {N L : Nat} {H : Hp} {Q : VK} {E : XK} (t : Two C H p q b c e d g N L) (hd : d ≠ 0) (k : ∀ H' f h x, Same H H' → Al b c e d g f h x → h ≠ 0 → Sm b (N + L) f → Sm b (N + L) h → Q (.int (f.fdiv h)) H') : spQuot C CM CQ [.ref p, .ref q] H Q E := ⟨p, q, rfl, .inl ⟨b, c, e, d, g, N, L, t, k, fun z => absurd z hd⟩⟩
theorem Mix.quot {C CM CQ p q : Addr} {H : Hp} {Q : VK} {E : XK} (m : Mix C CM H p q E) : spQuot C CM CQ [.ref p, .ref q] H Q E := ⟨p, q, rfl, .inr m⟩
section
local macro_rules | `(tactic| fail "zO") => `(tactic| ((with_reducible refine' ow_fdivA ?hc ?k); (case hc => exact ⟨by assumption, Nat.lt_of_le_of_lt (Bd.log (by assumption)) (by omega)⟩)))
theorem ok_quot {f C CM CQ : Addr} {fd : FuncData} (F : Fun K "quotient" "quotient" S_quotient f fd) (cA : Cal P w K mg base 3 "aligned" (spAl C CM)) (cQ : XCls0 K mg "NoQuotient" CQ) : FnOk P w K mg base (L2N.CX P w) 4 f fd ["left", "right"] (spQuot C CM CQ) := by
  have S := nk_quotient
  refine F.okN sc_quotient (fun vs H Q E h => ?_) (fun cdv A outer s H vs Q E hr h => ?_)
  · obtain ⟨p, q, rfl, _⟩ := h; rfl
  · obtain ⟨p, q, rfl, ⟨b, c, e, d, g, N, L, t, hQ, hE⟩ | m⟩ := h
    · show ZSs _ _ _ _ _ _ [some (.ref p), some (.ref q), none, none, none] H
      fail "z0"
      refine t.al (fun r f h x H1 s1 nr hr2 al bf bh => ?_)
      have sz := t.sz
      have hd : h = 0 → d = 0 := fun z => by
        rw [al.2.1] at z
        exact (Vl_pos t.b1).2.2.mp z
      have bh2 : Bd 7900 h := (bh.bd (by have := t.b1; omega) t.b9).mono (by omega)
      fail "za"
      · exact hE (hd (by assumption)) _ s1
      · exact hQ _ f h x s1 al (by assumption) bf bh
    · show ZSs _ _ _ _ _ _ [some (.ref p), some (.ref q), none, none, none] H
      fail "z0"
      exact (m.imp (.refl _) fun _ _ _ h => xw_def h).al
end

/-! + - * and the comparisons of exact numbers -/
def spAdd (C CM : Addr) (s : Int) : Sp := fun vs H Q E => ∃ (p q : Addr), vs = [.ref p, .ref q] ∧ ((∃ (b c e d g : Int) (N L : Nat), Two C H p q b c e d g N L ∧ ∀ r H' f h x c' e', Same H H' → NoA H r → Al b c e d g f h x → ExAt C H' r b (f + s * h) x c' e' → Sm b (N + L + 1) (f + s * h) → Q (.ref r) H') ∨ Mix C CM H p q E)
theorem Two.add {C CM p q : Addr} {b c e d g s : Int} {N L : Nat} {H : Hp} {Q : VK} {E : XK} (t : Two C H p q b c e d g N L) (k : ∀ r H' f h x c' e', Same H H' → NoA H r → Al b c e d g f h x → ExAt C H' r b (f + s * h) x c' e' → Sm b (N + L + 1) (f + s * h) → Q (.ref r) H') : spAdd C CM s [.ref p, .ref q] H Q E := ⟨p, q, rfl, .inl ⟨b, c, e, d, g, N, L, t, k⟩⟩
theorem Mix.add {C CM p q : Addr} {s : Int} {H : Hp} {Q : VK} {E : XK} (m : Mix C CM H p q E) : spAdd C CM s [.ref p, .ref q] H Q E := ⟨p, q, rfl, .inr m⟩
theorem Mix.right {C CM p q : Addr} {H : Hp} {E : XK} (m : Mix C CM H p q E) : ∃ dy fs, H q = some (.ins C dy fs) := by
  obtain ⟨_, _, _, _, _, _, _, ⟨dy, hq⟩, _⟩ := m.ex
  exact ⟨dy, _, hq⟩
theorem Mix.left {C CM p q : Addr} {H : Hp} {E : XK} (m : Mix C CM H p q E) : ∃ dy fs, H p = some (.ins C dy fs) := by
  obtain ⟨_, _, _, _, _, _, ⟨dy, hq⟩, _⟩ := m.ex
  exact ⟨dy, _, hq⟩
theorem ok_add {f C CB CM : Addr} {fd : FuncData} (F : Fun K "__add__" "Exact.__add__" S_Exact___add__ f fd) (cT : Cal P w K mg base 5 "taken" (spTaken C CB)) (cC : Cal P w K mg base 5 "combined" (spComb C CM)) : FnOk P w K mg base (L2N.CX P w) 6 f fd ["self", "other"] (spAdd C CM 1) := by
  have S := nk_Exact___add__
  refine F.okN sc_Exact___add__ (fun vs H Q E h => ?_) (fun cdv A outer s H vs Q E hr h => ?_)
  · obtain ⟨p, q, rfl, _⟩ := h; rfl
  · obtain ⟨p, q, rfl, ⟨b, c, e, d, g, N, L, t, hQ⟩ | m⟩ := h
    · obtain ⟨dy, hq⟩ := id t.r
      show ZSs _ _ _ _ _ _ [some (.ref p), some (.ref q)] H
      fail "z0"
      refine taken_do hq ?_
      fail "za"
      exact t.comb (by decide) hQ
    · obtain ⟨dy, fs, hq⟩ := m.right
      show ZSs _ _ _ _ _ _ [some (.ref p), some (.ref q)] H
      fail "z0"
      refine taken_do hq ?_
      fail "za"
      exact (m.imp (.refl _) fun _ _ _ h => xw_def h).comb
theorem ok_sub {f C CB CM : Addr} {fd : FuncData} (F : Fun K "__sub__" "Exact.__sub__" S_Exact___sub__ f fd) (cT : Cal P w K mg base 5 "taken" (spTaken C CB)) (cC : Cal P w K mg base 5 "combined" (spComb C CM)) : FnOk P w K mg base (L2N.CX P w) 6 f fd ["self", "other"] (spAdd C CM (-1)) := by
  have S := nk_Exact___sub__
  refine F.okN sc_Exact___sub__ (fun vs H Q E h => ?_) (fun cdv A outer s H vs Q E hr h => ?_)
  · obtain ⟨p, q, rfl, _⟩ := h; rfl
  · obtain ⟨p, q, rfl, ⟨b, c, e, d, g, N, L, t, hQ⟩ | m⟩ := h
    · obtain ⟨dy, hq⟩ := id t.r
      show ZSs _ _ _ _ _ _ [some (.ref p), some (.ref q)] H
      fail "z0"
      refine taken_do hq ?_
      fail "za"
      exact t.comb (by decide) hQ
    · obtain ⟨dy, fs, hq⟩ := m.right
      show ZSs _ _ _ _ _ _ [some (.ref p), some (.ref q)] H
      fail "z0"
      refine taken_do hq ?_
      fail "za"
      exact (m.imp (.refl _) fun _ _ _ h => xw_def h).comb
def spMul (C CM : Addr) : Sp := fun vs H Q E => ∃ (p q : Addr), vs = [.ref p, .ref q] ∧ ((∃ (b c e d g : Int) (N : Nat), ExF C H p b c e ∧ ExF C H q b d g ∧ 2 ≤ b ∧ b ≤ 36 ∧ Sm b N c ∧ Sm b N d ∧ N + N < 1300 ∧ ∀ r H' c' e', Same H H' → NoA H r → ExAt C H' r b (c * d) (e + g) c' e' → Q (.ref r) H') ∨ Mix C CM H p q E)
theorem mul_do {C CM p q : Addr} {b c e d g : Int} {N : Nat} {H : Hp} {Q : VK} {E : XK} (h1 : ExF C H p b c e) (h2 : ExF C H q b d g) (b1 : 2 ≤ b) (b9 : b ≤ 36) (n1 : Sm b N c) (n2 : Sm b N d) (z : N + N < 1300) (k : ∀ r H' c' e', Same H H' → NoA H r → ExAt C H' r b (c * d) (e + g) c' e' → Q (.ref r) H') : spMul C CM [.ref p, .ref q] H Q E := ⟨p, q, rfl, .inl ⟨b, c, e, d, g, N, h1, h2, b1, b9, n1, n2, z, k⟩⟩
theorem Mix.mul {C CM p q : Addr} {H : Hp} {Q : VK} {E : XK} (m : Mix C CM H p q E) : spMul C CM [.ref p, .ref q] H Q E := ⟨p, q, rfl, .inr m⟩
theorem ok_multiplied {f C CB CM : Addr} {fd : FuncData} (F : Fun K "multiplied" "multiplied" S_multiplied f fd) (T : ExTxt K C) (cX : CalC P w K mg base 3 "Exact" C (spEx C CB)) (cM : XCls P K mg "MixedBases" CM ["left", "right"]) : FnOk P w K mg base (L2N.CX P w) 5 f fd ["left", "right"] (spMul C CM) := by
  have S := nk_multiplied
  obtain ⟨I, nb, nc, ne⟩ := T
  have cl := I.cl
  refine F.okN sc_multiplied (fun vs H Q E h => ?_) (fun cdv A outer s H vs Q E hr h => ?_)
  · obtain ⟨p, q, rfl, _⟩ := h; rfl
  · obtain ⟨p, q, rfl, ⟨b, c, e, d, g, N, ⟨dx, hp⟩, ⟨dy, hq⟩, b1, b9, n1, n2, z, hQ⟩ | ⟨b, c, e, b2, d, g, ⟨dx, hp⟩, ⟨dy, hq⟩, ne2, hE⟩⟩ := h
    · have m1 := n1.bd (by omega) b9
      have m2 := n2.bd (by omega) b9
      show ZSs _ _ _ _ _ _ [some (.ref p), some (.ref q)] H
      unfold fsE at hp hq
      fail "z0"
      all_goals try (exfalso; contradiction)
      all_goals try exact m1.cmul m2 (by omega)
      rename_i r dr nr ndr nn
      exact ex_do nr ndr nn b1 b9 (m1.mul m2) (by omega) fun H' c' e' s hx => ⟨rfl, hQ r H' c' e' s nr hx⟩
    · show ZSs _ _ _ _ _ _ [some (.ref p), some (.ref q)] H
      unfold fsE at hp hq
      fail "z0"
      all_goals try (exfalso; contradiction)
      rename_i x nx
      exact hE x _ (.put (.refl _) nx.e) nx upd_same
theorem ok_mul {f C CB CM : Addr} {fd : FuncData} (F : Fun K "__mul__" "Exact.__mul__" S_Exact___mul__ f fd) (cT : Cal P w K mg base 5 "taken" (spTaken C CB)) (cC : Cal P w K mg base 5 "multiplied" (spMul C CM)) : FnOk P w K mg base (L2N.CX P w) 6 f fd ["self", "other"] (spMul C CM) := by
  have S := nk_Exact___mul__
  refine F.okN sc_Exact___mul__ (fun vs H Q E h => ?_) (fun cdv A outer s H vs Q E hr h => ?_)
  · obtain ⟨p, q, rfl, _⟩ := h; rfl
  · obtain ⟨p, q, rfl, ⟨b, c, e, d, g, N, h1, h2, b1, b9, n1, n2, z, hQ⟩ | m⟩ := h
    · obtain ⟨dy, hq⟩ := id h2
      show ZSs _ _ _ _ _ _ [some (.ref p), some (.ref q)] H
      fail "z0"
      refine taken_do hq ?_
      fail "za"
      exact mul_do h1 h2 b1 b9 n1 n2 z hQ
    · obtain ⟨dy, fs, hq⟩ := m.right
      show ZSs _ _ _ _ _ _ [some (.ref p), some (.ref q)] H
      fail "z0"
      refine taken_do hq ?_
      fail "za"
      exact (m.imp (.refl _) fun _ _ _ h => xw_def h).mul
/-- comparisons: by the difference at a common exponent -/
def spCmp (C CM : Addr) (R : Int → V) : Sp := fun vs H Q E => ∃ (p q : Addr), vs = [.ref p, .ref q] ∧ ((∃ (b c e d g : Int) (N L : Nat), Two C H p q b c e d g N L ∧ ∀ H' f h x, Same H H' → Al b c e d g f h x → Q (R (f - h)) H') ∨ Mix C CM H p q E)
theorem Two.cmp {C CM p q : Addr} {R : Int → V} {b c e d g : Int} {N L : Nat} {H : Hp} {Q : VK} {E : XK} (t : Two C H p q b c e d g N L) (k : ∀ H' f h x, Same H H' → Al b c e d g f h x → Q (R (f - h)) H') : spCmp C CM R [.ref p, .ref q] H Q E := ⟨p, q, rfl, .inl ⟨b, c, e, d, g, N, L, t, k⟩⟩
theorem Mix.cmp {C CM p q : Addr} {R : Int → V} {H : Hp} {Q : VK} {E : XK} (m : Mix C CM H p q E) : spCmp C CM R [.ref p, .ref q] H Q E := ⟨p, q, rfl, .inr m⟩
theorem ok_compared {f C CM : Addr} {fd : FuncData} (F : Fun K "compared" "compared" S_compared f fd) (cA : Cal P w K mg base 3 "aligned" (spAl C CM)) : FnOk P w K mg base (L2N.CX P w) 4 f fd ["left", "right"] (spCmp C CM .int) := by
  have S := nk_compared
  refine F.okN sc_compared (fun vs H Q E h => ?_) (fun cdv A outer s H vs Q E hr h => ?_)
  · obtain ⟨p, q, rfl, _⟩ := h; rfl
  · obtain ⟨p, q, rfl, ⟨b, c, e, d, g, N, L, t, hQ⟩ | m⟩ := h
    · show ZSs _ _ _ _ _ _ [some (.ref p), some (.ref q), none, none, none] H
      fail "z0"
      refine t.al (fun r f h x H1 s1 nr hr2 al bf bh => ?_)
      fail "za"
      exact hQ _ f h x s1 al
    · show ZSs _ _ _ _ _ _ [some (.ref p), some (.ref q), none, none, none] H
      fail "z0"
      exact (m.imp (.refl _) fun _ _ _ h => xw_def h).al
theorem ok_lt {f C CM : Addr} {fd : FuncData} (F : Fun K "__lt__" "Exact.__lt__" S_Exact___lt__ f fd) (B : Blt mg) (I : ClsI K C) (gE : mg "Exact" = some (.ref C)) (cC : Cal P w K mg base 4 "compared" (spCmp C CM .int)) : FnOk P w K mg base (L2N.CX P w) 5 f fd ["self", "other"] (spCmp C CM fun i => .bl (decide (i < 0))) := by
  have S := nk_Exact___lt__
  have cl := I.cl
  refine F.okN sc_Exact___lt__ (fun vs H Q E h => ?_) (fun cdv A outer s H vs Q E hr h => ?_)
  · obtain ⟨p, q, rfl, _⟩ := h; rfl
  · obtain ⟨p, q, rfl, ⟨b, c, e, d, g, N, L, t, hQ⟩ | m⟩ := h
    · obtain ⟨dy, hq⟩ := id t.r
      show ZSs _ _ _ _ _ _ [some (.ref p), some (.ref q)] H
      fail "z0"
      refine t.cmp (fun H' f h x s al => ?_)
      fail "za"
      exact hQ H' f h x s al
    · obtain ⟨dy, fs, hq⟩ := m.right
      show ZSs _ _ _ _ _ _ [some (.ref p), some (.ref q)] H
      fail "z0"
      exact (m.imp (.refl _) fun _ _ _ h => xw_def h).cmp
theorem ok_le {f C CM : Addr} {fd : FuncData} (F : Fun K "__le__" "Exact.__le__" S_Exact___le__ f fd) (B : Blt mg) (I : ClsI K C) (gE : mg "Exact" = some (.ref C)) (cC : Cal P w K mg base 4 "compared" (spCmp C CM .int)) : FnOk P w K mg base (L2N.CX P w) 5 f fd ["self", "other"] (spCmp C CM fun i => .bl (decide (i ≤ 0))) := by
  have S := nk_Exact___le__
  have cl := I.cl
  refine F.okN sc_Exact___le__ (fun vs H Q E h => ?_) (fun cdv A outer s H vs Q E hr h => ?_)
  · obtain ⟨p, q, rfl, _⟩ := h; rfl
  · obtain ⟨p, q, rfl, ⟨b, c, e, d, g, N, L, t, hQ⟩ | m⟩ := h
    · obtain ⟨dy, hq⟩ := id t.r
      show ZSs _ _ _ _ _ _ [some (.ref p), some (.ref q)] H
      fail "z0"
      refine t.cmp (fun H' f h x s al => ?_)
      fail "za"
      exact hQ H' f h x s al
    · obtain ⟨dy, fs, hq⟩ := m.right
      show ZSs _ _ _ _ _ _ [some (.ref p), some (.ref q)] H
      fail "z0"
      exact (m.imp (.refl _) fun _ _ _ h => xw_def h).cmp
theorem ok_gt {f C CM : Addr} {fd : FuncData} (F : Fun K "__gt__" "Exact.__gt__" S_Exact___gt__ f fd) (B : Blt mg) (I : ClsI K C) (gE : mg "Exact" = some (.ref C)) (cC : Cal P w K mg base 4 "compared" (spCmp C CM .int)) : FnOk P w K mg base (L2N.CX P w) 5 f fd ["self", "other"] (spCmp C CM fun i => .bl (decide (0 < i))) := by
  have S := nk_Exact___gt__
  have cl := I.cl
  refine F.okN sc_Exact___gt__ (fun vs H Q E h => ?_) (fun cdv A outer s H vs Q E hr h => ?_)
  · obtain ⟨p, q, rfl, _⟩ := h; rfl
  · obtain ⟨p, q, rfl, ⟨b, c, e, d, g, N, L, t, hQ⟩ | m⟩ := h
    · obtain ⟨dy, hq⟩ := id t.r
      show ZSs _ _ _ _ _ _ [some (.ref p), some (.ref q)] H
      fail "z0"
      refine t.cmp (fun H' f h x s al => ?_)
      fail "za"
      exact hQ H' f h x s al
    · obtain ⟨dy, fs, hq⟩ := m.right
      show ZSs _ _ _ _ _ _ [some (.ref p), some (.ref q)] H
      fail "z0"
      exact (m.imp (.refl _) fun _ _ _ h => xw_def h).cmp
theorem ok_ge {f C CM : Addr} {fd : FuncData} (F : Fun K "__ge__" "Exact.__ge__" S_Exact___ge__ f fd) (B : Blt mg) (I : ClsI K C) (gE : mg "Exact" = some (.ref C)) (cC : Cal P w K mg base 4 "compared" (spCmp C CM .int)) : FnOk P w K mg base (L2N.CX P w) 5 f fd ["self", "other"] (spCmp C CM fun i => .bl (decide (0 ≤ i))) := by
  have S := nk_Exact___ge__
  have cl := I.cl
  refine F.okN sc_Exact___ge__ (fun vs H Q E h => ?_) (fun cdv A outer s H vs Q E hr h => ?_)
  · obtain ⟨p, q, rfl, _⟩ := h; rfl
  · obtain ⟨p, q, rfl, ⟨b, c, e, d, g, N, L, t, hQ⟩ | m⟩ := h
    · obtain ⟨dy, hq⟩ := id t.r
      show ZSs _ _ _ _ _ _ [some (.ref p), some (.ref q)] H
      fail "z0"
      refine t.cmp (fun H' f h x s al => ?_)
      fail "za"
      exact hQ H' f h x s al
    · obtain ⟨dy, fs, hq⟩ := m.right
      show ZSs _ _ _ _ _ _ [some (.ref p), some (.ref q)] H
      fail "z0"
      exact (m.imp (.refl _) fun _ _ _ h => xw_def h).cmp

/-! the class Grid -/
abbrev FGrid (K : PySem.W.Frag) (f : Addr) (fd : FuncData) : Prop := FunD K "__init__" "Grid.__init__" (defArgs S_Grid___init__) (defBody S_Grid___init__) (defScope S_Grid___init__) [] [("bottom", .non), ("top", .non)] f fd
abbrev psGrid : List Str := ["self", "base", "precision", "bottom", "top"]
theorem bind_g0 {f : Addr} {fd : FuncData} (F : FGrid K f fd) : ∃ ds, Vals [V.non, V.non] ds ∧ Binds K fd psGrid ds :=
  FunD.binds0 (ps := psGrid) F 3 (by simp) rfl fun D doc pm an cdv ct us ks hl hk => match us, hl, ks, hk with | [_, _, _], _, [_, _], _ => ⟨_, _, _, _, _, _, rfl, rfl, _, _, _, _, _, _, rfl, rfl, rfl⟩
theorem vals_cat {vs ws : List V} {us xs : List Value} (a : Vals vs us) (b : Vals ws xs) : Vals (vs ++ ws) (us ++ xs) := a.append b
theorem bind_gb {f : Addr} {fd : FuncData} (F : FGrid K f fd) : ∃ mv : List Value, KBn K fd psGrid 3 ["bottom"] (fun us ws => us ++ (ws ++ mv)) (fun vs zs => vs ++ (zs ++ [V.non])) :=
  FunD.kbinds0 (ps := psGrid) F 3 ["bottom"] [("top", .non)] (fun us mv ws => us ++ (ws ++ mv)) (by simp) (by simp) (fun a b c => vals_cat a (vals_cat c b)) fun D doc pm an cdv ct us mv ws hl hm hw => match us, hl, mv, hm, ws, hw with | [_, _, _], _, [_], _, [_], _ => ⟨_, _, _, _, _, _, rfl, rfl, rfl⟩
theorem bind_gt {f : Addr} {fd : FuncData} (F : FGrid K f fd) : ∃ mv : List Value, KBn K fd psGrid 3 ["top"] (fun us ws => us ++ (mv ++ ws)) (fun vs zs => vs ++ ([V.non] ++ zs)) :=
  FunD.kbinds0 (ps := psGrid) F 3 ["top"] [("bottom", .non)] (fun us mv ws => us ++ (mv ++ ws)) (by simp) (by simp) (fun a b c => vals_cat a (vals_cat b c)) fun D doc pm an cdv ct us mv ws hl hm hw => match us, hl, mv, hm, ws, hw with | [_, _, _], _, [_], _, [_], _ => ⟨_, _, _, _, _, _, rfl, rfl, rfl⟩
theorem bind_gbt {f : Addr} {fd : FuncData} (F : FGrid K f fd) : ∃ mv : List Value, KBn K fd psGrid 3 ["bottom", "top"] (fun us ws => us ++ (mv ++ ws)) (fun vs zs => vs ++ ([] ++ zs)) :=
  FunD.kbinds0 (ps := psGrid) F 3 ["bottom", "top"] [] (fun us mv ws => us ++ (mv ++ ws)) (by simp) (by simp) (fun a b c => vals_cat a (vals_cat b c)) fun D doc pm an cdv ct us mv ws hl hm hw => match us, hl, mv, hm, ws, hw with | [_, _, _], _, [], _, [_, _], _ => rfl
/-- what the written part says of Grid -/
structure GrTxt (K : PySem.W.Frag) (mg : Str → Option Value) (C : Addr) : Prop where
  I : ClsI K C
  g : mg "Grid" = some (.ref C)
  nb : NoAttr K C "base"
  np : NoAttr K C "precision"
  nbo : NoAttr K C "bottom"
  nt : NoAttr K C "top"
  rd : ∃ mc, ClX.CRead K C mc ∧ (∃ u, ClX.CVal K C mc "LEAST" (.int 3) u) ∧ (∃ u, ClX.CVal K C mc "MOST" (.int 200) u)
/-- a border: none or a whole number -/
def ov : Option Int → V
  | none => .non
  | some i => .int i
def fsG (b n : Int) (bo to : Option Int) : List (Str × V) := [("base", .int b), ("precision", .int n), ("bottom", ov bo), ("top", ov to)]
/-- a grid at p -/
def GrF (C : Addr) (H : Hp) (p : Addr) (b n : Int) (bo to : Option Int) : Prop := ∃ dx, H p = some (.ins C dx (fsG b n bo to))
theorem GrF.same {C : Addr} {H H' : Hp} {p : Addr} {b n : Int} {bo to : Option Int} (h : GrF C H p b n bo to) (s : Same H H') : GrF C H' p b n bo to := ⟨_, s _ _ h.choose_spec⟩
def okB : Option Int → Option Int → Prop
  | some x, some y => x ≤ y
  | _, _ => True
def spGI (C CB CG : Addr) : Sp := fun vs H Q E => ∃ (p dx : Addr) (b n : Int) (bo to : Option Int), vs = [.ref p, .int b, .int n, ov bo, ov to] ∧ H p = some (.ins C dx []) ∧
  (2 ≤ b → b ≤ 36 → 3 ≤ n → n ≤ 200 → okB bo to → ∀ H', (∀ a o, a ≠ p → H a = some o → H' a = some o) → H' p = some (.ins C dx (fsG b n bo to)) → Q .non H') ∧
  (¬ (2 ≤ b ∧ b ≤ 36) → ∀ d, NoA H d → E (.ref CB) (some d) (upd H d (.xd [("base", .int b)]))) ∧
  (2 ≤ b → b ≤ 36 → ¬ (3 ≤ n ∧ n ≤ 200) → ∀ d, NoA H d → E (.ref CG) (some d) (upd H d (.xd [("what", .str "precision")]))) ∧
  (2 ≤ b → b ≤ 36 → 3 ≤ n → n ≤ 200 → ¬ okB bo to → ∀ d, NoA H d → E (.ref CG) (some d) (upd H d (.xd [("what", .str "borders")])))
section
local macro_rules | `(tactic| fail "zP") => `(tactic| (with_reducible refine cb_do (fun ⟨_, _⟩ => ?_) (fun _ _ _ => ?_)))
theorem ok_gini {f C CB CG : Addr} {fd : FuncData} (F : FGrid K f fd) (T : GrTxt K mg C) (cB : Cal P w K mg base 2 "check_base" (spCB CB)) (cG : XCls P K mg "BadGrid" CG ["what"]) : FnOk P w K mg base (L2N.CX P w) 3 f fd psGrid (spGI C CB CG) := by
  have S := nk_Grid___init__
  obtain ⟨I, gG, nb, np, nbo, nt, mc, rd, ⟨u1, v1⟩, u2, v2⟩ := T
  have cl := I.cl
  refine F.okN sc_Grid___init__ (fun vs H Q E h => ?_) (fun cdv A outer s H vs Q E hr h => ?_)
  · obtain ⟨p, dx, b, n, bo, to, rfl, _⟩ := h; rfl
  · obtain ⟨p, dx, b, n, bo, to, rfl, hp, h1, h2, h3, h4⟩ := h
    unfold okB at h1 h4
    unfold fsG at h1
    rcases bo with _ | x <;> rcases to with _ | y <;> simp only [ov] at *
    all_goals
      show ZSs _ _ _ _ _ _ [some (.ref p), some (.int b), some (.int n), some _, some _] H
      fail "z0"
    all_goals first
      | exact h2 (by assumption) _ (by assumption)
      | exact h3 (by omega) (by omega) (by omega) _ (by assumption)
      | exact h4 (by omega) (by omega) (by omega) (by omega) (by omega) _ (by assumption)
      | exact h1 (by omega) (by omega) (by omega) (by omega) (by first | trivial | omega) _ (fun a o na ha => by rw [upd_ne na, upd_ne na, upd_ne na, upd_ne na]; exact ha) upd_same
end

/-- a grid as it is made -/
structure Gd (G : Addr) (H : Hp) (p : Addr) (b : Int) (n : Nat) (bo to : Option Int) : Prop where
  f : GrF G H p b n bo to
  b1 : 2 ≤ b
  b9 : b ≤ 36
  n1 : 3 ≤ n
  n9 : n ≤ 200
theorem Gd.same {G : Addr} {H H' : Hp} {p : Addr} {b : Int} {n : Nat} {bo to : Option Int} (h : Gd G H p b n bo to) (s : Same H H') : Gd G H' p b n bo to := ⟨h.f.same s, h.b1, h.b9, h.n1, h.n9⟩

/-! numbers of a grid: greatest, beyond, in -/
/-- the greatest coefficient -/
def gC (b : Int) (n : Nat) : Int := b ^ n - 1
theorem gC_pos {b : Int} {n : Nat} (b1 : 2 ≤ b) (n1 : 1 ≤ n) : 1 ≤ gC b n ∧ gC b n < b ^ n := by
  obtain ⟨m, rfl⟩ : ∃ m, n = m + 1 := ⟨n - 1, by omega⟩
  have pm : (0 : Int) < b ^ m := Int.pow_pos (by omega)
  have := Int.mul_le_mul_of_nonneg_right (show 1 ≤ b ^ m by omega) (show 0 ≤ b by omega)
  have e : b ^ (m + 1) = b ^ m * b := Int.pow_succ ..
  unfold gC; omega
theorem gC_nd {b : Int} {n : Nat} (b1 : 2 ≤ b) (n1 : 1 ≤ n) : ¬ b ∣ gC b n := by
  obtain ⟨m, rfl⟩ : ∃ m, n = m + 1 := ⟨n - 1, by omega⟩
  intro h
  have e : b ∣ b ^ (m + 1) := ⟨b ^ m, by rw [Int.mul_comm]; exact Int.pow_succ ..⟩
  have d1 := Int.dvd_sub e h
  rw [show b ^ (m + 1) - gC b (m + 1) = 1 by unfold gC; omega] at d1
  have := Int.le_of_dvd (by omega) d1
  omega
theorem gC_low {b t : Int} {n : Nat} (b1 : 2 ≤ b) (n1 : 1 ≤ n) : LowF b (gC b n) t := .inr ⟨by have := gC_pos b1 n1; omega, gC_nd b1 n1⟩
theorem gC_sm {b : Int} {n : Nat} (b1 : 2 ≤ b) (n1 : 1 ≤ n) : Sm b n (gC b n) := by
  have := gC_pos b1 n1
  exact Sm.of_lt (by omega) (by omega) this.2
/-- above the greatest number -/
def over (b : Int) (n : Nat) (to : Option Int) (c e : Int) : Bool := match to with
  | none => false
  | some t => decide (Vl b (minI e t) (gC b n) t < Vl b (minI e t) c.natAbs e)
theorem Vl_up {b m x d g c e : Int} (hb : 2 ≤ b) (m1 : m ≤ x) (h1 : x ≤ g ∨ d = 0) (h2 : x ≤ e ∨ c = 0) : (Vl b m d g < Vl b m c e ↔ Vl b x d g < Vl b x c e) := by
  have pk : (0 : Int) < b ^ (x - m).toNat := Int.pow_pos (by omega)
  rw [Vl_shift m1 (h1.symm), Vl_shift m1 (h2.symm)]
  exact ⟨fun h => Int.lt_of_mul_lt_mul_right h (Int.le_of_lt pk), fun h => Int.mul_lt_mul_of_pos_right h pk⟩
theorem over_zero {b e : Int} {n : Nat} {to : Option Int} (b1 : 2 ≤ b) (n1 : 1 ≤ n) : over b n to 0 e = false := by
  unfold over
  cases to with
  | none => rfl
  | some t =>
    refine decide_eq_false ?_
    have := (Vl_pos (m := minI e t) (c := gC b n) (e := t) b1).1.mpr (by have := gC_pos b1 n1; omega)
    rw [show ((Int.natAbs 0 : Nat) : Int) = 0 from rfl, Vl_zero]
    omega
/-- what a comparison at a common exponent tells -/
theorem Al.ovr {b c e t f h x : Int} {n : Nat} (b1 : 2 ≤ b) (n1 : 1 ≤ n) (al : Al b c.natAbs e (gC b n) t f h x) : decide (0 < f - h) = over b n (some t) c e := by
  have gp := gC_pos b1 n1
  by_cases c0 : c = 0
  · subst c0
    rw [over_zero b1 n1]
    refine decide_eq_false ?_
    have := (Vl_pos (m := x) (c := gC b n) (e := t) b1).1.mpr (by omega)
    obtain ⟨rfl, rfl, _⟩ := al
    rw [show ((Int.natAbs 0 : Nat) : Int) = 0 from rfl, Vl_zero]
    omega
  · obtain ⟨rfl, rfl, a3, a4, a5, _⟩ := al
    have a3 : x ≤ e := a3.resolve_left (by omega)
    have a4 : x ≤ t := a4.resolve_left (by omega)
    have : x = minI e t := by have := minI_le e t; rcases a5 with rfl | rfl <;> unfold minI <;> split <;> omega
    subst this
    unfold over
    refine decide_eq_decide.mpr ?_
    omega
/-- a number of the grid -/
def inG (b : Int) (n : Nat) (bo to : Option Int) (c e : Int) : Bool := decide (c = 0) || (decide ((c.natAbs : Int) < b ^ n) && (match bo with | none => true | some x => decide (x ≤ e)) && !over b n to c e)
theorem Dig.le {b c : Int} {D n : Nat} (b1 : 2 ≤ b) (n1 : 1 ≤ n) (h : Dig b c D) : D ≤ n ↔ (c.natAbs : Int) < b ^ n := by
  rcases h with ⟨rfl, rfl⟩ | ⟨c0, k, rfl, h1, h2⟩
  · have : (0 : Int) < b ^ n := Int.pow_pos (by omega)
    refine ⟨fun _ => by simpa using this, fun _ => by omega⟩
  · constructor
    · intro l
      have := ipow_le (b := b) (by omega) l
      omega
    · intro l
      refine Nat.lt_of_not_le fun z => ?_
      have := ipow_le (b := b) (by omega) (show n ≤ k from z)
      omega
/-- the bounds under which a number is compared with the greatest one -/
structure Fit (b : Int) (N L : Nat) (to : Option Int) (c e : Int) : Prop where
  sm : Sm b N c
  df : ∀ t, to = some t → e - t ≤ L ∧ t - e ≤ L
  sz : N + L + 200 < 1300
def spGreat (C G : Addr) : Sp := fun vs H Q _ => ∃ (p : Addr) (b : Int) (n : Nat) (bo to : Option Int), vs = [.ref p] ∧ Gd G H p b n bo to ∧ (to = none → Q .non H) ∧ (∀ t, to = some t → ∀ r H', Same H H' → NoA H r → ExF C H' r b (gC b n) t → Q (.ref r) H')
theorem great_do {C G p : Addr} {b : Int} {n : Nat} {bo : Option Int} {t : Int} {H : Hp} {Q : VK} {E : XK} (g : Gd G H p b n bo (some t)) (k : ∀ r H', Same H H' → NoA H r → ExF C H' r b (gC b n) t → Q (.ref r) H') : spGreat C G [.ref p] H Q E := ⟨p, b, n, bo, some t, rfl, g, fun z => (by cases z), fun _ z => by cases z; exact k⟩
theorem great_no {C G p : Addr} {b : Int} {n : Nat} {bo : Option Int} {H : Hp} {Q : VK} {E : XK} (g : Gd G H p b n bo none) (k : Q .non H) : spGreat C G [.ref p] H Q E := ⟨p, b, n, bo, none, rfl, g, fun _ => k, fun _ z => by cases z⟩
section
local macro_rules | `(tactic| fail "zP") => `(tactic| (with_reducible refine pow_do (n := _) (t := 6) ?_ ?_ ?_))
theorem ok_great {f C G CB : Addr} {fd : FuncData} (F : Fun K "greatest" "Grid.greatest" S_Grid_greatest f fd) (T : GrTxt K mg G) (cP : Cal P w K mg base 1 "power" spPow) (cX : CalC P w K mg base 3 "Exact" C (spEx C CB)) : FnOk P w K mg base (L2N.CX P w) 5 f fd ["self"] (spGreat C G) := by
  have S := nk_Grid_greatest
  obtain ⟨I, gG, nb, np, nbo, nt, _⟩ := T
  have cl := I.cl
  refine F.okN sc_Grid_greatest (fun vs H Q E h => ?_) (fun cdv A outer s H vs Q E hr h => ?_)
  · obtain ⟨p, b, n, bo, to, rfl, _⟩ := h; rfl
  · obtain ⟨p, b, n, bo, to, rfl, ⟨⟨dx, hp⟩, b1, b9, n1, n9⟩, h1, h2⟩ := h
    have bb : Bd 6 b := by unfold Bd; omega
    have g := (gC_sm b1 (show 1 ≤ n by omega)).bd (by omega) b9
    unfold fsG at hp
    rcases to with _ | t <;> simp only [ov] at *
    · show ZSs _ _ _ _ _ _ [some (.ref p)] H
      fail "z0"
      exact h1 (by trivial)
    · show ZSs _ _ _ _ _ _ [some (.ref p)] H
      fail "z0"
      · exact bb
      · omega
      rename_i r d nr nd nn
      exact ex_do nr nd nn b1 b9 g (by omega) fun H' c' e' s hx => ⟨rfl, h2 t rfl r H' s nr (by have := Low.one b1 hx.2 (gC_low b1 (by omega)).low; obtain ⟨rfl, rfl⟩ := this; exact hx.1)⟩
end
def spSameB (C G CM : Addr) : Sp := fun vs H Q E => ∃ (p q : Addr) (b n b2 c e : Int) (bo to : Option Int), vs = [.ref p, .ref q] ∧ GrF G H p b n bo to ∧ ExF C H q b2 c e ∧ (b = b2 → Q .non H) ∧ (b ≠ b2 → ∀ x H', Same H H' → NoA H x → H' x = some (.xd [("right", .int b2), ("left", .int b)]) → E (.ref CM) (some x) H')
theorem sameb_do {C G CM p q : Addr} {b n b2 c e : Int} {bo to : Option Int} {H : Hp} {Q : VK} {E : XK} (g : GrF G H p b n bo to) (x : ExF C H q b2 c e) (h1 : b = b2 → Q .non H) (h2 : b ≠ b2 → ∀ x H', Same H H' → NoA H x → H' x = some (.xd [("right", .int b2), ("left", .int b)]) → E (.ref CM) (some x) H') : spSameB C G CM [.ref p, .ref q] H Q E := ⟨p, q, b, n, b2, c, e, bo, to, rfl, g, x, h1, h2⟩
theorem ok_sameb {f C G CM : Addr} {fd : FuncData} (F : Fun K "check_same_base" "check_same_base" S_check_same_base f fd) (T : GrTxt K mg G) (X : ExTxt K C) (cM : XCls P K mg "MixedBases" CM ["left", "right"]) : FnOk P w K mg base (L2N.CX P w) 2 f fd ["grid", "value"] (spSameB C G CM) := by
  have S := nk_check_same_base
  have clG := T.I.cl
  have nbG := T.nb
  have clX := X.I.cl
  have nbX := X.nb
  refine F.okN sc_check_same_base (fun vs H Q E h => ?_) (fun cdv A outer s H vs Q E hr h => ?_)
  · obtain ⟨p, q, b, n, b2, c, e, bo, to, rfl, _⟩ := h; rfl
  · obtain ⟨p, q, b, n, b2, c, e, bo, to, rfl, ⟨dx, hp⟩, ⟨dy, hq⟩, h1, h2⟩ := h
    unfold fsG at hp
    unfold fsE at hq
    show ZSs _ _ _ _ _ _ [some (.ref p), some (.ref q)] H
    fail "z0"
    · rename_i nn x nx
      exact h2 (by assumption) x _ (.put (.refl _) nx.e) nx upd_same
    · exact h1 (by omega)
def spAbsE (C : Addr) : Sp := fun vs H Q _ => ∃ (p : Addr) (b c e : Int) (N : Nat), vs = [.ref p] ∧ ExF C H p b c e ∧ 2 ≤ b ∧ b ≤ 36 ∧ Bd N c ∧ N ≤ 8000 ∧ ∀ r H' c' e', Same H H' → NoA H r → ExAt C H' r b c.natAbs e c' e' → Q (.ref r) H'
theorem absE_do {C p : Addr} {b c e : Int} {N : Nat} {H : Hp} {Q : VK} {E : XK} (x : ExF C H p b c e) (b1 : 2 ≤ b) (b9 : b ≤ 36) (h : Bd N c) (l : N ≤ 8000) (k : ∀ r H' c' e', Same H H' → NoA H r → ExAt C H' r b c.natAbs e c' e' → Q (.ref r) H') : spAbsE C [.ref p] H Q E := ⟨p, b, c, e, N, rfl, x, b1, b9, h, l, k⟩
theorem ok_absE {f C CB : Addr} {fd : FuncData} (F : Fun K "__abs__" "Exact.__abs__" S_Exact___abs__ f fd) (B : Blt mg) (T : ExTxt K C) (cX : CalC P w K mg base 3 "Exact" C (spEx C CB)) : FnOk P w K mg base (L2N.CX P w) 5 f fd ["self"] (spAbsE C) := by
  have S := nk_Exact___abs__
  obtain ⟨I, nb, nc, ne⟩ := T
  have cl := I.cl
  refine F.okN sc_Exact___abs__ (fun vs H Q E h => ?_) (fun cdv A outer s H vs Q E hr h => ?_)
  · obtain ⟨p, b, c, e, N, rfl, _⟩ := h; rfl
  · obtain ⟨p, b, c, e, N, rfl, ⟨dx, hp⟩, b1, b9, hb, l, hQ⟩ := h
    unfold fsE at hp
    have hb' : Bd N (c.natAbs : Int) := by unfold Bd at *; omega
    show ZSs _ _ _ _ _ _ [some (.ref p)] H
    fail "z0"
    rw [abs_nat]
    rename_i r d nr nd nn
    exact ex_do nr nd nn b1 b9 hb' l fun H' c' e' s hx => ⟨rfl, hQ r H' c' e' s nr hx⟩
def spBey (C G : Addr) : Sp := fun vs H Q _ => ∃ (p q : Addr) (b c e : Int) (n N L : Nat) (bo to : Option Int), vs = [.ref p, .ref q] ∧ Gd G H p b n bo to ∧ ExF C H q b c e ∧ LowF b c e ∧ Fit b N L to c e ∧ ∀ H', Same H H' → Q (.bl (over b n to c e)) H'
theorem bey_do {C G p q : Addr} {b c e : Int} {n N L : Nat} {bo to : Option Int} {H : Hp} {Q : VK} {E : XK} (g : Gd G H p b n bo to) (x : ExF C H q b c e) (lf : LowF b c e) (ft : Fit b N L to c e) (k : ∀ H', Same H H' → Q (.bl (over b n to c e)) H') : spBey C G [.ref p, .ref q] H Q E := ⟨p, q, b, c, e, n, N, L, bo, to, rfl, g, x, lf, ft, k⟩
theorem LowF.abs {b c e : Int} (h : LowF b c e) : LowF b c.natAbs e := by
  rcases h with ⟨rfl, rfl⟩ | ⟨c0, nd⟩
  · exact .inl ⟨rfl, rfl⟩
  · exact .inr ⟨by omega, fun z => nd (Int.dvd_natAbs.mp z)⟩
theorem Sm.mono' {b c : Int} {n m : Nat} (hb : 1 ≤ b) (h : Sm b n c) (l : n ≤ m) : Sm b m c := h.mono hb l
section
local macro_rules | `(tactic| fail "zP") => `(tactic| first | ((with_reducible refine' absE_do (N := _) ?h ?b1 ?b9 ?hn ?l ?k); (case h => assumption); (case b1 => assumption); (case b9 => assumption); (case hn => assumption); (case l => omega)))
theorem ok_bey {f C G CM : Addr} {fd : FuncData} (F : Fun K "beyond" "beyond" S_beyond f fd) (B : Blt mg) (T : GrTxt K mg G) (X : ExTxt K C) (sf : PySem.W.selfFirst K C = true) (cA : CalM P w K mg base 5 C "__abs__" (spAbsE C)) (cG : CalP P w K mg base 5 G "greatest" (spGreat C G)) (oG : CalM P w K mg base 5 C "__gt__" (spCmp C CM fun i => .bl (decide (0 < i)))) : FnOk P w K mg base (L2N.CX P w) 7 f fd ["grid", "value"] (spBey C G) := by
  have S := nk_beyond
  have clG := T.I.cl
  have ntG := T.nt
  have clX := X.I.cl
  refine F.okN sc_beyond (fun vs H Q E h => ?_) (fun cdv A outer s H vs Q E hr h => ?_)
  · obtain ⟨p, q, b, c, e, n, N, L, bo, to, rfl, _⟩ := h; rfl
  · obtain ⟨p, q, b, c, e, n, N, L, bo, to, rfl, g, ⟨dy, hq⟩, lf, ⟨sm, df, sz⟩, hQ⟩ := h
    obtain ⟨dx, hp⟩ := id g.f
    have b1 := g.b1
    have b9 := g.b9
    have n1 := g.n1
    have n9 := g.n9
    have hx : ExF C H q b c e := ⟨dy, hq⟩
    have hb := sm.bd (by omega) b9
    unfold fsG at hp
    unfold fsE at hq
    rcases to with _ | t <;> simp only [ov] at *
    · show ZSs _ _ _ _ _ _ [some (.ref p), some (.ref q)] H
      fail "z0"
      exact hQ _ (.refl _)
    · obtain ⟨d1, d2⟩ := df t rfl
      show ZSs _ _ _ _ _ _ [some (.ref p), some (.ref q)] H
      fail "z0"
      intro r H1 c' e' s1 nr xr
      obtain ⟨rfl, rfl⟩ := Low.one b1 xr.2 lf.abs.low
      obtain ⟨⟨dr, hr1⟩, _⟩ := id xr
      fail "za"
      refine great_do (g.same s1) (fun u H2 s2 nu xu => ?_)
      obtain ⟨du, hu⟩ := id xu
      have hr2 := s2 _ _ hr1
      fail "za"
      have sa : Sm b (N + 200) (c.natAbs : Int) := (show Sm b N (c.natAbs : Int) by unfold Sm at *; simpa using sm).mono (by omega) (by omega)
      have sg : Sm b (N + 200) (gC b n) := (gC_sm b1 (by omega)).mono (by omega) (by omega)
      refine Two.cmp (N := N + 200) (L := L) ⟨ExF.same xr.1 s2, xu, b1, b9, sa, sg, fun _ _ => ⟨d1, d2⟩, by omega⟩ (fun H3 f h x s3 al => ?_)
      rw [al.ovr b1 (by omega)]
      exact hQ _ ((s1.trans s2).trans s3)
end
def spIn (C G CM : Addr) : Sp := fun vs H Q E => ∃ (p q : Addr), vs = [.ref p, .ref q] ∧ ((∃ (b c e : Int) (n N L : Nat) (bo to : Option Int), Gd G H p b n bo to ∧ ExF C H q b c e ∧ LowF b c e ∧ Fit b N L to c e ∧ ∀ H', Same H H' → Q (.bl (inG b n bo to c e)) H') ∨ (∃ (b n b2 c e : Int) (bo to : Option Int), GrF G H p b n bo to ∧ ExF C H q b2 c e ∧ b ≠ b2 ∧ ∀ x H', Same H H' → NoA H x → H' x = some (.xd [("right", .int b2), ("left", .int b)]) → E (.ref CM) (some x) H'))
theorem in_do {C G CM p q : Addr} {b c e : Int} {n N L : Nat} {bo to : Option Int} {H : Hp} {Q : VK} {E : XK} (g : Gd G H p b n bo to) (x : ExF C H q b c e) (lf : LowF b c e) (ft : Fit b N L to c e) (k : ∀ H', Same H H' → Q (.bl (inG b n bo to c e)) H') : spIn C G CM [.ref p, .ref q] H Q E := ⟨p, q, rfl, .inl ⟨b, c, e, n, N, L, bo, to, g, x, lf, ft, k⟩⟩
theorem in_mix {C G CM p q : Addr} {b n b2 c e : Int} {bo to : Option Int} {H : Hp} {Q : VK} {E : XK} (g : GrF G H p b n bo to) (x : ExF C H q b2 c e) (ne : b ≠ b2) (k : ∀ x H', Same H H' → NoA H x → H' x = some (.xd [("right", .int b2), ("left", .int b)]) → E (.ref CM) (some x) H') : spIn C G CM [.ref p, .ref q] H Q E := ⟨p, q, rfl, .inr ⟨b, n, b2, c, e, bo, to, g, x, ne, k⟩⟩
section
local macro_rules | `(tactic| fail "zP") => `(tactic| first | ((with_reducible refine' digits_do (N := _) ?h ?b1 ?b9 ?hn ?l ?k); (case h => assumption); (case b1 => assumption); (case b9 => assumption); (case hn => assumption); (case l => omega)))
theorem ok_in {f C G CM : Addr} {fd : FuncData} (F : Fun K "__contains__" "Grid.__contains__" S_Grid___contains__ f fd) (T : GrTxt K mg G) (X : ExTxt K C) (cS : Cal P w K mg base 2 "check_same_base" (spSameB C G CM)) (pD : CalP P w K mg base 3 C "digits" (spDigits C)) (cB : Cal P w K mg base 7 "beyond" (spBey C G)) : FnOk P w K mg base (L2N.CX P w) 8 f fd ["self", "value"] (spIn C G CM) := by
  have S := nk_Grid___contains__
  obtain ⟨I, gG, nb, np, nbo, nt, _⟩ := T
  obtain ⟨I2, nbX, ncX, neX⟩ := X
  have cl := I.cl
  have cl2 := I2.cl
  refine F.okN sc_Grid___contains__ (fun vs H Q E h => ?_) (fun cdv A outer s H vs Q E hr h => ?_)
  · obtain ⟨p, q, rfl, _⟩ := h; rfl
  · obtain ⟨p, q, rfl, ⟨b, c, e, n, N, L, bo, to, g, xe, lf, ft, hQ⟩ | ⟨b, n, b2, c, e, bo, to, g, xe, ne, hE⟩⟩ := h
    · obtain ⟨dx, hp⟩ := id g.f
      obtain ⟨dy, hq⟩ := id xe
      have b1 := g.b1
      have b9 := g.b9
      have n1 := g.n1
      have hb := ft.sm.bd (by omega) b9
      have sz := ft.sz
      unfold fsG at hp
      unfold fsE at hq
      show ZSs _ _ _ _ _ _ [some (.ref p), some (.ref q)] H
      fail "z0"
      refine sameb_do g.f xe (fun _ => ?_) (fun z => absurd rfl z)
      fail "za"
      intro D H1 dg s1
      have dl := dg.le b1 (show 1 ≤ n by omega)
      have hq1 := s1 _ _ hq
      have hp1 := s1 _ _ hp
      have z0 : c = 0 → D = 0 := fun z => by rcases dg with ⟨_, h⟩ | ⟨h, _⟩; exact h; exact absurd z h
      have fin : ∀ {H' : Hp} {v : Bool}, Same H H' → v = inG b n bo to c e → Q (.bl v) H' := fun {H' v} s e => by rw [e]; exact hQ _ s
      have no1 : ∀ {H' : Hp}, Same H H' → ¬ (c.natAbs : Int) < b ^ n → Q (.bl false) H' := fun {H'} s l => fin s (by
        have c0 : c ≠ 0 := fun z => l (by rw [z]; exact Int.pow_pos (by omega))
        unfold inG
        rw [decide_eq_false c0, decide_eq_false l]; rfl)
      rcases bo with _ | x
      · simp only [ov] at *
        fail "za"
        · exact no1 s1 (fun z => by have := dl.mpr z; omega)
        · refine bey_do (g.same s1) ⟨_, hq1⟩ lf ft (fun H2 s2 => ⟨_, rfl, fin (s1.trans s2) ?_⟩)
          unfold inG
          by_cases c0 : c = 0
          · rw [c0, over_zero b1 (by omega)]; rfl
          · rw [decide_eq_false c0, decide_eq_true (dl.mp (by omega))]
            rfl
      · simp only [ov] at *
        fail "za"
        · exact no1 s1 (fun z => by have := dl.mpr z; omega)
        · rename_i c0 lx
          refine fin s1 ?_
          unfold inG
          rw [decide_eq_false c0, decide_eq_true (dl.mp (by omega))]
          simp only []
          rw [decide_eq_false (show ¬ x ≤ e by omega)]; rfl
        · rename_i c0 lx
          refine bey_do (g.same s1) ⟨_, hq1⟩ lf ft (fun H2 s2 => ⟨_, rfl, fin (s1.trans s2) ?_⟩)
          unfold inG
          rw [decide_eq_false c0, decide_eq_true (dl.mp (by omega))]
          simp only []
          rw [decide_eq_true (show x ≤ e by omega)]; rfl
        · refine bey_do (g.same s1) ⟨_, hq1⟩ lf ft (fun H2 s2 => ⟨_, rfl, fin (s1.trans s2) ?_⟩)
          have c0 : c = 0 := by omega
          unfold inG
          rw [c0, over_zero b1 (by omega)]; rfl
    · obtain ⟨dx, hp⟩ := id g
      obtain ⟨dy, hq⟩ := id xe
      unfold fsG at hp
      unfold fsE at hq
      show ZSs _ _ _ _ _ _ [some (.ref p), some (.ref q)] H
      fail "z0"
      exact sameb_do g xe (fun z => absurd z ne) (fun _ x H' s nx hx => xw_def (hE x H' s nx hx))
end

/-! a grid made by the law from a row -/
theorem gini_of {G CB CG a dx : Addr} {b : Int} {n : Nat} {bo to : Option Int} {H : Hp} {R : VK} {E : XK} (n1 : NoA H a) (n2 : NoA H dx) (b1 : 2 ≤ b) (b9 : b ≤ 36) (l1 : 3 ≤ n) (l9 : n ≤ 200) (ok : okB bo to)
    (h : ∀ H', Same H H' → Gd G H' a b n bo to → R .non H') : spGI G CB CG [.ref a, .int b, .int n, ov bo, ov to] (upd (upd H dx (.own a)) a (.ins G dx [])) R E := by
  have s1 : Same H (upd (upd H dx (.own a)) a (.ins G dx [])) := .put (.put (.refl _) n2.e) n1.e
  refine ⟨a, dx, b, n, bo, to, rfl, upd_same, fun _ _ _ _ _ H' k hp => h H' (fun x o hx => k x o (ne_of_none hx n1.e) (s1 x o hx)) ⟨⟨dx, hp⟩, b1, b9, l1, l9⟩, fun z => absurd ⟨b1, b9⟩ z, fun _ _ z => absurd ⟨by omega, by omega⟩ z, fun _ _ _ _ z => absurd ok z⟩
def spG0 (G CB CG : Addr) : Sp := fun vs H Q E => ∃ (p : Addr) (b n : Int), vs = [.ref p, .int b, .int n] ∧ spGI G CB CG [.ref p, .int b, .int n, .non, .non] H Q E
def spGb (G CB CG : Addr) : Sp := fun vs H Q E => ∃ (p : Addr) (b n x : Int), vs = [.ref p, .int b, .int n, .int x] ∧ spGI G CB CG [.ref p, .int b, .int n, .int x, .non] H Q E
def spGt (G CB CG : Addr) : Sp := fun vs H Q E => ∃ (p : Addr) (b n x : Int), vs = [.ref p, .int b, .int n, .int x] ∧ spGI G CB CG [.ref p, .int b, .int n, .non, .int x] H Q E
def spGbt (G CB CG : Addr) : Sp := fun vs H Q E => ∃ (p : Addr) (b n x y : Int), vs = [.ref p, .int b, .int n, .int x, .int y] ∧ spGI G CB CG [.ref p, .int b, .int n, .int x, .int y] H Q E
/-- the four ways to make a grid -/
structure GrCal (P : Program) (w : World) (K : PySem.W.Frag) (mg : Str → Option Value) (base : Heap) (G CB CG : Addr) : Prop where
  c0 : CalC P w K mg base 3 "Grid" G (spG0 G CB CG)
  cb : CalCK P w K mg base 3 "Grid" G 2 ["bottom"] (spGb G CB CG)
  ct : CalCK P w K mg base 3 "Grid" G 2 ["top"] (spGt G CB CG)
  cbt : CalCK P w K mg base 3 "Grid" G 2 ["bottom", "top"] (spGbt G CB CG)
theorem grid_cals {f G CB CG : Addr} {fd : FuncData} (M : L2.Mk K G f) (F : FGrid K f fd) (gm : mg "Grid" = some (.ref G)) (ok : FnOk P w K mg base (L2N.CX P w) 3 f fd psGrid (spGI G CB CG)) : GrCal P w K mg base G CB CG := by
  constructor
  · refine ⟨f, fd, _, _, M, ok, gm, fun vs H Q E h => ?_⟩
    obtain ⟨p, b, n, rfl, h⟩ := h
    obtain ⟨ds, v, bd⟩ := bind_g0 F
    exact ⟨[.non, .non], ds, bd, v, h⟩
  · obtain ⟨mv, kb⟩ := bind_gb F
    refine ⟨f, fd, _, _, _, _, M, ok, gm, kb, fun r vs zs H Q E h l1 l2 => ?_⟩
    obtain ⟨p, b, n, x, e, h⟩ := h
    match vs, zs, l1, l2 with
    | [v1, v2], [z], _, _ => cases e; exact h
  · obtain ⟨mv, kb⟩ := bind_gt F
    refine ⟨f, fd, _, _, _, _, M, ok, gm, kb, fun r vs zs H Q E h l1 l2 => ?_⟩
    obtain ⟨p, b, n, x, e, h⟩ := h
    match vs, zs, l1, l2 with
    | [v1, v2], [z], _, _ => cases e; exact h
  · obtain ⟨mv, kb⟩ := bind_gbt F
    refine ⟨f, fd, _, _, _, _, M, ok, gm, kb, fun r vs zs H Q E h l1 l2 => ?_⟩
    obtain ⟨p, b, n, x, y, e, h⟩ := h
    match vs, zs, l1, l2 with
    | [v1, v2], [z1, z2], _, _ => cases e; exact h
/-- the law's row of a grid -/
def RowG (H : Hp) (r : Addr) (b : Int) (n : Nat) (bo to : Option Int) : Prop := H r = some (.lst [.int b, .int n, ov bo, ov to])
theorem RowG.same {H H' : Hp} {r : Addr} {b : Int} {n : Nat} {bo to : Option Int} (h : RowG H r b n bo to) (s : Same H H') : RowG H' r b n bo to := s _ _ h

/-- a precision -/
def spPrec : Sp := fun vs H Q _ => ∃ (p : Addr) (m : Int), vs = [.ref p, .int m] ∧ Src H p ∧ 8 ≤ m ∧ m ≤ 300 ∧ ∀ n : Nat, 3 ≤ n → (n : Int) ≤ m → Q (.int n) H
theorem prec_do {p : Addr} {m : Int} {H : Hp} {Q : VK} {E : XK} (h0 : Src H p) (h1 : 8 ≤ m) (h2 : m ≤ 300) (h : ∀ n : Nat, 3 ≤ n → (n : Int) ≤ m → Q (.int n) H) : spPrec [.ref p, .int m] H Q E := ⟨p, m, rfl, h0, h1, h2, h⟩
theorem ok_prec {f : Addr} {fd : FuncData} (F : Fun K "_law_precision" "_law_precision" S__law_precision f fd) (cD : Cal P w K mg base 1 "_law_draw" spDraw) : FnOk P w K mg base (L2N.CX P w) 2 f fd ["source", "most"] spPrec := by
  have S := nk__law_precision
  refine F.okN sc__law_precision (fun vs H Q E h => ?_) (fun cdv A outer s H vs Q E hr h => ?_)
  · obtain ⟨p, m, rfl, _⟩ := h; rfl
  · obtain ⟨p, m, rfl, hp, h1, h2, hQ⟩ := h
    show ZSs _ _ _ _ _ _ [some (.ref p), some (.int m)] H
    fail "z0"
    all_goals
      rename_i v v0 v9
      rw [show 3 + v = ((3 + v).toNat : Nat) by omega]
      exact hQ _ (by omega) (by omega)

/-! words: the handled exception handed on; not in -/
local macro_rules | `(tactic| fail "zD") => `(tactic| ((with_reducible refine' ze_callX ?c (by assumption) (by assumption) ‹Room _ _› ?hk ?hX ?k ?hg ?hdb ?he ?hpl); (case c => (with_reducible assumption)); (case hk => fail "zlev"); (case hX => exact ⟨rfl, rfl, rfl, rfl, rfl, rfl⟩); (case hg => rfl); (case hdb => decide); (case he => rfl); (case hpl => rfl)))
local macro_rules | `(tactic| fail "zOwn") => `(tactic| ((with_reducible refine' ow_notinO ?cm ‹Room _ _› ?hk ?hX ?ea ?k); (case ea => fail "zh"); (case cm => (with_reducible assumption)); (case hk => fail "zlev"); (case hX => exact ⟨rfl, rfl, rfl, rfl, rfl, rfl⟩)))
local macro_rules | `(tactic| fail "z") => `(tactic| first
  | ((with_reducible show CallW _ _ _ _ _); refine' cw_isp ?hp (by assumption) (by assumption) ?hc ?T ?hd ?hv ?hk ?_; (case hp => assumption); (case hc => rfl); (case T => assumption); (case hd => first | exact Or.inl rfl | exact Or.inr ⟨_, _, rfl, by fail "zh"⟩); (case hv => first | exact .own _ | exact .ty _); (case hk => assumption))
  | ((with_reducible show AtW _ _ _ _ _); refine' aw_xp ?hp (by assumption) (by assumption) ?hc ?hd ?T ?hno ?ea ?l ?q; (case hp => assumption); (case hc => rfl); (case hd => rfl); (case T => assumption); (case hno => assumption); (case ea => fail "zh"); (case l => rfl)))
local macro_rules | `(tactic| fail "zO") => `(tactic| ((with_reducible refine' ow_eqD ?hu ?hx ?hy ?h1 ?h2 ?hr ?k); (case hu => exact RoomH.u64 (‹L2H.RoomH _ _›)); (case hx => fail "zdp"); (case hy => fail "zdp"); (case h1 => rfl); (case h2 => rfl); (case hr => first | exact (show PyData.eqv _ _ = true from rfl) | exact (show PyData.eqv _ _ = false from rfl))))

/-- a statement by its own end: Iv -/
theorem zss_cut {X : Cx} {s : Stmt} {rest : List Stmt} {nx bk ct : NX} {rt : VK} {σ : L2.St} {H : Hp} (Iv : L2.St → Hp → Prop) (h1 : ∀ nx' : NX, (∀ σ1 H1, Iv σ1 H1 → nx' σ1 H1) → ZS X s nx' rt bk ct σ H) (h2 : ∀ σ1 H1, Iv σ1 H1 → ZSs X rest nx rt bk ct σ1 H1) : ZSs X (s :: rest) nx rt bk ct σ H := zss_cons (h1 _ h2)

/-! check_number, unit -/
/-- value in grid or the error -/
def rNum (b : Int) (n : Nat) (bo to : Option Int) (c e : Int) (q CN : Addr) (H : Hp) (Q : Hp → Prop) (E : XK) : Prop := (inG b n bo to c e = true → ∀ H', Same H H' → Q H') ∧ (inG b n bo to c e = false → ∀ x H', Same H H' → NoA H x → H' x = some (.xd [("value", .ref q)]) → E (.ref CN) (some x) H')
def spChkN (C G CM CN : Addr) : Sp := fun vs H Q E => ∃ (p q : Addr), vs = [.ref p, .ref q] ∧ ((∃ (b c e : Int) (n N L : Nat) (bo to : Option Int), Gd G H p b n bo to ∧ ExF C H q b c e ∧ LowF b c e ∧ Fit b N L to c e ∧ rNum b n bo to c e q CN H (Q .non) E) ∨ (∃ (b n b2 c e : Int) (bo to : Option Int), GrF G H p b n bo to ∧ ExF C H q b2 c e ∧ b ≠ b2 ∧ ∀ x H', Same H H' → NoA H x → H' x = some (.xd [("right", .int b2), ("left", .int b)]) → E (.ref CM) (some x) H'))
theorem chkn_do {C G CM CN p q : Addr} {b c e : Int} {n N L : Nat} {bo to : Option Int} {H : Hp} {Q : VK} {E : XK} (g : Gd G H p b n bo to) (x : ExF C H q b c e) (lf : LowF b c e) (ft : Fit b N L to c e) (k : rNum b n bo to c e q CN H (Q .non) E) : spChkN C G CM CN [.ref p, .ref q] H Q E := ⟨p, q, rfl, .inl ⟨b, c, e, n, N, L, bo, to, g, x, lf, ft, k⟩⟩
theorem chkn_ok {C G CM CN p q : Addr} {b c e : Int} {n N L : Nat} {bo to : Option Int} {H : Hp} {Q : VK} {E : XK} (g : Gd G H p b n bo to) (x : ExF C H q b c e) (lf : LowF b c e) (ft : Fit b N L to c e) (i : inG b n bo to c e = true) (k : ∀ H', Same H H' → Q .non H') : spChkN C G CM CN [.ref p, .ref q] H Q E := chkn_do g x lf ft ⟨fun _ => k, fun z => by rw [i] at z; cases z⟩
theorem chkn_mix {C G CM CN p q : Addr} {b n b2 c e : Int} {bo to : Option Int} {H : Hp} {Q : VK} {E : XK} (g : GrF G H p b n bo to) (x : ExF C H q b2 c e) (ne : b ≠ b2) (k : ∀ x H', Same H H' → NoA H x → H' x = some (.xd [("right", .int b2), ("left", .int b)]) → E (.ref CM) (some x) H') : spChkN C G CM CN [.ref p, .ref q] H Q E := ⟨p, q, rfl, .inr ⟨b, n, b2, c, e, bo, to, g, x, ne, k⟩⟩
theorem ok_chkn {f C G CM CN : Addr} {fd : FuncData} (F : Fun K "check_number" "check_number" S_check_number f fd) (cN : XCls P K mg "NotANumber" CN ["value"]) (oI : CalM P w K mg base 8 G "__contains__" (spIn C G CM)) : FnOk P w K mg base (L2N.CX P w) 9 f fd ["grid", "value"] (spChkN C G CM CN) := by
  have S := nk_check_number
  refine F.okN sc_check_number (fun vs H Q E h => ?_) (fun cdv A outer s H vs Q E hr h => ?_)
  · obtain ⟨p, q, rfl, _⟩ := h; rfl
  · obtain ⟨p, q, rfl, ⟨b, c, e, n, N, L, bo, to, g, xe, lf, ft, h1, h2⟩ | ⟨b, n, b2, c, e, bo, to, g, xe, ne, hE⟩⟩ := h
    · obtain ⟨dx, hp⟩ := id g.f
      show ZSs _ _ _ _ _ _ [some (.ref p), some (.ref q)] H
      fail "z0"
      refine in_do g xe lf ft (fun H1 s1 => ⟨_, rfl, ?_⟩)
      fail "za"
      · rename_i hf x nx
        exact h2 hf x _ (s1.new nx.e) ⟨nx.free s1⟩ upd_same
      · rename_i hf
        exact h1 hf _ s1
    · obtain ⟨dx, hp⟩ := id g
      show ZSs _ _ _ _ _ _ [some (.ref p), some (.ref q)] H
      fail "z0"
      exact in_mix g xe ne (fun x H' s nx hx => xw_def (hE x H' s nx hx))
/-- the exponent of the last digit that is kept -/
def unitI (n : Nat) (bo : Option Int) (e : Int) (D : Nat) : Int := match bo with
  | none => e + D - n
  | some x => if e + D - n < x then x else e + D - n
def spUnit (C G : Addr) : Sp := fun vs H Q _ => ∃ (p q : Addr) (b c e : Int) (n N : Nat) (bo to : Option Int), vs = [.ref p, .ref q] ∧ Gd G H p b n bo to ∧ ExF C H q b c e ∧ c ≠ 0 ∧ Bd N c ∧ N ≤ 8000 ∧ ∀ D H', Dig b c D → Same H H' → Q (.int (unitI n bo e D)) H'
theorem unit_do {C G p q : Addr} {b c e : Int} {n N : Nat} {bo to : Option Int} {H : Hp} {Q : VK} {E : XK} (g : Gd G H p b n bo to) (x : ExF C H q b c e) (c0 : c ≠ 0) (hb : Bd N c) (hN : N ≤ 8000) (k : ∀ D H', Dig b c D → Same H H' → Q (.int (unitI n bo e D)) H') : spUnit C G [.ref p, .ref q] H Q E := ⟨p, q, b, c, e, n, N, bo, to, rfl, g, x, c0, hb, hN, k⟩
theorem ok_unit {f C G CM : Addr} {fd : FuncData} (F : Fun K "unit" "Grid.unit" S_Grid_unit f fd) (T : GrTxt K mg G) (X : ExTxt K C) (cS : Cal P w K mg base 2 "check_same_base" (spSameB C G CM)) (pP : CalP P w K mg base 3 C "place" (spPlace C)) : FnOk P w K mg base (L2N.CX P w) 5 f fd ["self", "value"] (spUnit C G) := by
  have S := nk_Grid_unit
  obtain ⟨I, gG, nb, np, nbo, nt, _⟩ := T
  obtain ⟨I2, nbX, ncX, neX⟩ := X
  have cl := I.cl
  have cl2 := I2.cl
  refine F.okN sc_Grid_unit (fun vs H Q E h => ?_) (fun cdv A outer s H vs Q E hr h => ?_)
  · obtain ⟨p, q, b, c, e, n, N, bo, to, rfl, _⟩ := h; rfl
  · obtain ⟨p, q, b, c, e, n, N, bo, to, rfl, g, xe, c0, hb, hN, hQ⟩ := h
    obtain ⟨dx, hp⟩ := id g.f
    obtain ⟨dy, hq⟩ := id xe
    unfold fsG at hp
    unfold fsE at hq
    unfold unitI at hQ
    show ZSs _ _ _ _ _ _ [some (.ref p), some (.ref q), none] H
    fail "z0"
    refine sameb_do g.f xe (fun _ => ?_) (fun z => absurd rfl z)
    fail "za"
    all_goals try (exfalso; omega)
    refine place_do xe g.b1 g.b9 hb hN (fun z => absurd z c0) (fun k H1 _ dk s1 => ?_)
    have hp1 := s1 _ _ hp
    have e1 : e + (k : Int) - n + 1 = e + ((k + 1 : Nat) : Int) - n := by omega
    rcases bo with _ | x
    · simp only [ov] at *
      fail "za"
      rw [e1]
      exact hQ _ _ dk s1
    · simp only [ov] at *
      fail "za"
      · have := hQ _ _ dk s1
        rwa [if_pos (by omega)] at this
      · have := hQ _ _ dk s1
        rw [if_neg (by omega)] at this
        rwa [e1]

/-! law_k72: ranks -/
def spBot (G CG : Addr) : Sp := fun vs H Q E => ∃ (p : Addr) (b n : Int) (bo to : Option Int), vs = [.ref p] ∧ GrF G H p b n bo to ∧ (bo ≠ none → Q .non H) ∧ (bo = none → ∀ x H', Same H H' → NoA H x → H' x = some (.xd [("what", .str "borders")]) → E (.ref CG) (some x) H')
theorem bot_do {G CG p : Addr} {b n : Int} {bo to : Option Int} {H : Hp} {Q : VK} {E : XK} (g : GrF G H p b n bo to) (h1 : bo ≠ none → Q .non H) (h2 : bo = none → ∀ x H', Same H H' → NoA H x → H' x = some (.xd [("what", .str "borders")]) → E (.ref CG) (some x) H') : spBot G CG [.ref p] H Q E := ⟨p, b, n, bo, to, rfl, g, h1, h2⟩
theorem ok_bot {f G CG : Addr} {fd : FuncData} (F : Fun K "check_bottom" "check_bottom" S_check_bottom f fd) (T : GrTxt K mg G) (cG : XCls P K mg "BadGrid" CG ["what"]) : FnOk P w K mg base (L2N.CX P w) 2 f fd ["grid"] (spBot G CG) := by
  have S := nk_check_bottom
  have cl := T.I.cl
  have nbo := T.nbo
  refine F.okN sc_check_bottom (fun vs H Q E h => ?_) (fun cdv A outer s H vs Q E hr h => ?_)
  · obtain ⟨p, b, n, bo, to, rfl, _⟩ := h; rfl
  · obtain ⟨p, b, n, bo, to, rfl, ⟨dx, hp⟩, h1, h2⟩ := h
    unfold fsG at hp
    show ZSs _ _ _ _ _ _ [some (.ref p)] H
    rcases bo with _ | x <;> simp only [ov] at *
    · fail "z0"
      rename_i x nx
      exact h2 (by trivial) x _ (.put (.refl _) nx.e) nx upd_same
    · fail "z0"
      exact h1 (by simp)
/-- how many positive numbers have one place -/
def eaI (b : Int) (n : Nat) : Int := (b - 1) * b ^ (n - 1)
theorem eaI_pos {b : Int} {n : Nat} (b1 : 2 ≤ b) (n1 : 3 ≤ n) : 4 ≤ eaI b n ∧ b ^ n = b ^ (n - 1) + eaI b n := by
  obtain ⟨m, rfl⟩ : ∃ m, n = m + 2 + 1 := ⟨n - 3, by omega⟩
  have pm : (0 : Int) < b ^ m := Int.pow_pos (by omega)
  have e1 : b ^ (m + 2 + 1) = b ^ (m + 2) * b := Int.pow_succ ..
  have e2 : b ^ (m + 2) = b ^ m * b * b := by rw [Int.pow_succ, Int.pow_succ]
  have q1 := Int.mul_le_mul_of_nonneg_left b1 (show 0 ≤ b ^ m by omega)
  have q2 := Int.mul_le_mul_of_nonneg_left b1 (show 0 ≤ b ^ m * b by omega)
  have q3 := Int.mul_le_mul_of_nonneg_right (show 1 ≤ b - 1 by omega) (show 0 ≤ b ^ (m + 2) by omega)
  unfold eaI
  rw [show m + 2 + 1 - 1 = m + 2 by omega]
  refine ⟨by omega, ?_⟩
  rw [e1, Int.sub_mul, Int.one_mul, Int.mul_comm]; omega
def spNip (G : Addr) : Sp := fun vs H Q _ => ∃ (p : Addr) (b : Int) (n : Nat) (bo to : Option Int), vs = [.ref p] ∧ Gd G H p b n bo to ∧ Q (.int (eaI b n)) H
theorem nip_do {G p : Addr} {b : Int} {n : Nat} {bo to : Option Int} {H : Hp} {Q : VK} {E : XK} (g : Gd G H p b n bo to) (q : Q (.int (eaI b n)) H) : spNip G [.ref p] H Q E := ⟨p, b, n, bo, to, rfl, g, q⟩
theorem ok_nip {f G : Addr} {fd : FuncData} (F : Fun K "numbers_in_place" "numbers_in_place" S_numbers_in_place f fd) (T : GrTxt K mg G) (cP : Cal P w K mg base 1 "power" spPow) : FnOk P w K mg base (L2N.CX P w) 2 f fd ["grid"] (spNip G) := by
  have S := nk_numbers_in_place
  obtain ⟨I, gG, nb, np, _⟩ := T
  have cl := I.cl
  refine F.okN sc_numbers_in_place (fun vs H Q E h => ?_) (fun cdv A outer s H vs Q E hr h => ?_)
  · obtain ⟨p, b, n, bo, to, rfl, _⟩ := h; rfl
  · obtain ⟨p, b, n, bo, to, rfl, g, hQ⟩ := h
    obtain ⟨dx, hp⟩ := g.f
    have b1 := g.b1
    have b9 := g.b9
    have n1 := g.n1
    have n9 := g.n9
    have bb : Bd 6 b := by unfold Bd; omega
    unfold fsG at hp
    show ZSs _ _ _ _ _ _ [some (.ref p)] H
    refine zss_one (zs_ret ?_)
    fail "za"
    rw [show (n : Int) - 1 = ((n - 1 : Nat) : Int) by omega]
    refine pow_do (n := n - 1) (t := 6) bb (by omega) ?_
    fail "za"
    exact hQ

/-- the rank of a number: its whole coefficient at the unit u -/
def rkI (b : Int) (n : Nat) (x c e u : Int) : Int := sgnI c * ((c.natAbs : Int) * b ^ (e - u).toNat + (u - x) * eaI b n)
def spRank (C G CM CN CG : Addr) : Sp := fun vs H Q E => ∃ (p q : Addr) (b : Int) (n : Nat) (bo to : Option Int) (b2 c e : Int), vs = [.ref p, .ref q] ∧ Gd G H p b n bo to ∧ ExF C H q b2 c e ∧
  (bo = none → ∀ x H', Same H H' → NoA H x → H' x = some (.xd [("what", .str "borders")]) → E (.ref CG) (some x) H') ∧
  (bo ≠ none → b ≠ b2 → ∀ x H', Same H H' → NoA H x → H' x = some (.xd [("right", .int b2), ("left", .int b)]) → E (.ref CM) (some x) H') ∧
  (∀ x, bo = some x → b = b2 → LowF b c e ∧ (∃ N L, Fit b N L to c e ∧ e - x ≤ 500) ∧
    (inG b n bo to c e = false → ∀ x H', Same H H' → NoA H x → H' x = some (.xd [("value", .ref q)]) → E (.ref CN) (some x) H') ∧
    (inG b n bo to c e = true → (c = 0 → ∀ H', Same H H' → Q (.int 0) H') ∧ (c ≠ 0 → ∀ D H', Dig b c D → Same H H' → Q (.int (rkI b n x c e (unitI n bo e D))) H')))
theorem inG_ge {b c e x : Int} {n : Nat} {to : Option Int} (h : inG b n (some x) to c e = true) (c0 : c ≠ 0) : x ≤ e ∧ (c.natAbs : Int) < b ^ n ∧ over b n to c e = false := by
  unfold inG at h
  rw [decide_eq_false c0] at h
  simp only [Bool.false_or, Bool.and_eq_true, decide_eq_true_eq, Bool.not_eq_true'] at h
  exact ⟨h.1.2, h.1.1, h.2⟩
theorem unit_ge {b c e x : Int} {n D : Nat} (b1 : 2 ≤ b) (n1 : 1 ≤ n) (hd : Dig b c D) (l : (c.natAbs : Int) < b ^ n) (g : x ≤ e) : x ≤ unitI n (some x) e D ∧ unitI n (some x) e D ≤ e := by
  have := (hd.le b1 n1).mpr l
  unfold unitI
  simp only []
  split <;> omega
theorem Bd.add {N : Nat} {i j : Int} (h : Bd N i) (k : Bd N j) : Bd (N + 1) (i + j) := by
  unfold Bd at *
  rw [Nat.pow_succ]
  omega
theorem sgnI_abs (c : Int) : (sgnI c).natAbs ≤ 1 := by unfold sgnI; split <;> (try split) <;> decide
theorem ok_rank {f C G CM CN CG : Addr} {fd : FuncData} (F : Fun K "rank_of" "rank_of" S_rank_of f fd) (B : Blt mg) (T : GrTxt K mg G) (X : ExTxt K C) (cBo : Cal P w K mg base 2 "check_bottom" (spBot G CG)) (cN : Cal P w K mg base 9 "check_number" (spChkN C G CM CN)) (pS : CalP P w K mg base 1 C "sign" (spSign C)) (oU : CalM P w K mg base 5 G "unit" (spUnit C G)) (cP : Cal P w K mg base 1 "power" spPow) (cNi : Cal P w K mg base 2 "numbers_in_place" (spNip G)) : FnOk P w K mg base (L2N.CX P w) 10 f fd ["grid", "value"] (spRank C G CM CN CG) := by
  have S := nk_rank_of
  obtain ⟨I, gG, nb, np, nbo, nt, _⟩ := T
  obtain ⟨I2, nbX, ncX, neX⟩ := X
  have cl := I.cl
  have cl2 := I2.cl
  refine F.okN sc_rank_of (fun vs H Q E h => ?_) (fun cdv A outer s H vs Q E hr h => ?_)
  · obtain ⟨p, q, b, n, bo, to, b2, c, e, rfl, _⟩ := h; rfl
  · obtain ⟨p, q, b, n, bo, to, b2, c, e, rfl, g, xe, h1, h2, h3⟩ := h
    obtain ⟨dx, hp⟩ := id g.f
    obtain ⟨dy, hq⟩ := id xe
    have b1 := g.b1
    have b9 := g.b9
    have n1 := g.n1
    have n9 := g.n9
    have bb : Bd 6 b := by unfold Bd; omega
    show ZSs _ _ _ _ _ _ [some (.ref p), some (.ref q), none, none] H
    fail "z0"
    refine bot_do g.f (fun z => ?_) (fun z x H' s nx hx => xw_def (h1 z x H' s nx hx))
    obtain ⟨x, rfl⟩ : ∃ x, bo = some x := by rcases bo with _ | x; exact absurd rfl z; exact ⟨x, rfl⟩
    fail "za"
    by_cases eb : b = b2
    · subst eb
      obtain ⟨lf, ⟨N, L, ft, he⟩, k1, k2⟩ := h3 x rfl rfl
      have hb := ft.sm.bd (by omega) b9
      have sz := ft.sz
      refine chkn_do g xe lf ft ⟨fun i H1 s1 => ?_, fun i x H' s nx hx => xw_def (k1 i x H' s nx hx)⟩
      obtain ⟨k3, k4⟩ := k2 i
      have hp1 := s1 _ _ hp
      have hq1 := s1 _ _ hq
      unfold fsG at hp1
      unfold fsE at hq1
      have sc := sgnI_pos c
      fail "za"
      refine sign_do (xe.same s1) ?_
      fail "za"
      · exact k3 (by omega) _ s1
      · rename_i c0
        have c0 : c ≠ 0 := by omega
        obtain ⟨i1, i2, i3⟩ := inG_ge i c0
        refine unit_do (g.same s1) (xe.same s1) c0 hb (by omega) (fun D H2 hd s2 => ?_)
        obtain ⟨u1, u9⟩ := unit_ge b1 (by omega) hd i2 i1
        have k4 := k4 c0 D
        generalize unitI n (some x) e D = u at *
        have hp2 := s2 _ _ hp1
        have hq2 := s2 _ _ hq1
        fail "za"
        rw [show e - u = ((e - u).toNat : Nat) by omega]
        refine pow_do (n := (e - u).toNat) (t := 6) bb (by omega) ?_
        rw [abs_nat]
        have wB : Bd (6 * N + (6 * (e - u).toNat + 1)) ((c.natAbs : Int) * b ^ (e - u).toNat) := Bd.mul (by unfold Bd at *; omega) (bb.pow _)
        have nB : Bd (6 + (6 * (n - 1) + 1)) (eaI b n) := Bd.mul (N := 6) (by unfold Bd; omega) (bb.pow _)
        have uB : Bd 9 (u - x) := by unfold Bd; omega
        have tB : Bd (6 * N + 6 * (e - u).toNat + 6 * n + 100 + 1) ((c.natAbs : Int) * b ^ (e - u).toNat + (u - x) * eaI b n) := Bd.add (wB.mono (by omega)) ((uB.mul nB).mono (by omega))
        simp only [ov] at hp2
        have hB := And.intro (And.intro wB nB) (And.intro uB tB)
        refine ow_mulW (Bd.cmul (N := 6 * N) (by unfold Bd at *; omega) (bb.pow _) (by omega)) ?_
        clear wB nB uB tB
        fail "za"
        all_goals obtain ⟨⟨wB, nB⟩, uB, tB⟩ := hB
        refine sign_do ((xe.same s1).same s2) ?_
        have hB := And.intro (And.intro wB nB) (And.intro uB tB)
        clear wB nB uB tB
        fail "za"
        refine nip_do ((g.same s1).same s2) ?_
        fail "za"
        all_goals obtain ⟨⟨wB, nB⟩, uB, tB⟩ := hB
        · exact Bd.cmul (N := 2) (by unfold Bd; have := sgnI_abs c; omega) tB (by omega)
        · exact k4 _ hd (s1.trans s2)
    · refine chkn_mix g.f xe eb (fun x H' s nx hx => xw_def (h2 z eb x H' s nx hx))
/-- the number with a rank: whole coefficient and how many places above the bottom -/
def abI (b : Int) (n : Nat) (k : Int) : Int := if b ^ (n - 1) ≤ (k.natAbs : Int) then ((k.natAbs : Int) - b ^ (n - 1)) / eaI b n else 0
def whI (b : Int) (n : Nat) (k : Int) : Int := if k < 0 then -((k.natAbs : Int) - abI b n k * eaI b n) else (k.natAbs : Int) - abI b n k * eaI b n
def spNumA (C G CR CG : Addr) : Sp := fun vs H Q E => ∃ (p : Addr) (b : Int) (n : Nat) (bo to : Option Int) (k : Int), vs = [.ref p, .int k] ∧ Gd G H p b n bo to ∧
  (bo = none → ∀ x H', Same H H' → NoA H x → H' x = some (.xd [("what", .str "borders")]) → E (.ref CG) (some x) H') ∧
  (∀ x, bo = some x → Sm b (n + 100) k ∧ (∀ c e, Low b (whI b n k) (x + abI b n k) c e → ∃ N L, Fit b N L to c e ∧ (over b n to c e = true → ∀ x H', Same H H' → NoA H x → H' x = some (.xd [("rank", .int k)]) → E (.ref CR) (some x) H') ∧
    (over b n to c e = false → ∀ q H', Same H H' → NoA H q → ExF C H' q b c e → Q (.ref q) H')))
theorem ok_numa {f C G CB CR CG : Addr} {fd : FuncData} (F : Fun K "number_at" "number_at" S_number_at f fd) (B : Blt mg) (T : GrTxt K mg G) (cBo : Cal P w K mg base 2 "check_bottom" (spBot G CG)) (cP : Cal P w K mg base 1 "power" spPow) (cNi : Cal P w K mg base 2 "numbers_in_place" (spNip G)) (cX : CalC P w K mg base 3 "Exact" C (spEx C CB)) (cBe : Cal P w K mg base 7 "beyond" (spBey C G)) (cR : XCls P K mg "NoRank" CR ["rank"]) : FnOk P w K mg base (L2N.CX P w) 8 f fd ["grid", "rank"] (spNumA C G CR CG) := by
  have S := nk_number_at
  obtain ⟨I, gG, nb, np, nbo, nt, _⟩ := T
  have cl := I.cl
  refine F.okN sc_number_at (fun vs H Q E h => ?_) (fun cdv A outer s H vs Q E hr h => ?_)
  · obtain ⟨p, b, n, bo, to, k, rfl, _⟩ := h; rfl
  · obtain ⟨p, b, n, bo, to, k, rfl, g, h1, h2⟩ := h
    obtain ⟨dx, hp⟩ := id g.f
    have b1 := g.b1
    have b9 := g.b9
    have n1 := g.n1
    have n9 := g.n9
    have bb : Bd 6 b := by unfold Bd; omega
    show ZSs _ _ _ _ _ _ [some (.ref p), some (.int k), none, none, none, none, none] H
    fail "z0"
    refine bot_do g.f (fun z => ?_) (fun z x H' s nx hx => xw_def (h1 z x H' s nx hx))
    obtain ⟨x, rfl⟩ : ∃ x, bo = some x := by rcases bo with _ | x; exact absurd rfl z; exact ⟨x, rfl⟩
    obtain ⟨sk, h2⟩ := h2 x rfl
    have kB := sk.bd (by omega) b9
    unfold fsG at hp
    rw [show ov (some x) = V.int x from rfl] at hp
    have ep := eaI_pos b1 n1
    have pm : (0 : Int) < b ^ (n - 1) := Int.pow_pos (by omega)
    fail "za"
    rw [abs_nat, show (n : Int) - 1 = ((n - 1 : Nat) : Int) by omega]
    refine pow_do (n := n - 1) (t := 6) bb (by omega) ?_
    have ab0 : 0 ≤ abI b n k ∧ abI b n k * eaI b n ≤ k.natAbs ∧ abI b n k ≤ k.natAbs := by
      unfold abI
      split
      · have d1 := Int.mul_ediv_add_emod ((k.natAbs : Int) - b ^ (n - 1)) (eaI b n)
        have d2 := Int.emod_nonneg ((k.natAbs : Int) - b ^ (n - 1)) (show eaI b n ≠ 0 by omega)
        have d3 := Int.ediv_nonneg (show 0 ≤ (k.natAbs : Int) - b ^ (n - 1) by omega) (show 0 ≤ eaI b n by omega)
        rw [Int.mul_comm] at d1
        have d4 := Int.mul_le_mul_of_nonneg_left (show 1 ≤ eaI b n by omega) d3
        omega
      · omega
    refine ⟨_, _, by fail "sat", by decide, ?_⟩
    refine zss_cut (fun σ1 H1 => σ1 = [some (.ref p), some (.int k), some (.int k.natAbs), some (.int (b ^ (n - 1))), some (.int 0), none, none] ∧ H = H1) (fun nx hnx => ?_) ?_
    · fail "za"
      exact hnx _ _ ⟨rfl, rfl⟩
    rintro _ _ ⟨rfl, rfl⟩
    refine zss_cut (fun σ1 H1 => σ1 = [some (.ref p), some (.int k), some (.int k.natAbs), some (.int (b ^ (n - 1))), some (.int (abI b n k)), none, none] ∧ H = H1) (fun nx hnx => ?_) ?_
    · unfold abI at hnx
      fail "za"
      · refine nip_do g ?_
        refine ow_fdivW ⟨by omega, ?_⟩ ?_
        · have nB : Bd (6 + (6 * (n - 1) + 1)) (eaI b n) := Bd.mul (N := 6) (by unfold Bd; omega) (bb.pow _)
          exact Nat.lt_of_le_of_lt nB.log (by omega)
        fail "za"
        exact hnx _ _ ⟨by rw [if_pos (by assumption)], rfl⟩
      · exact hnx _ _ ⟨by rw [if_neg (by assumption)], rfl⟩
    rintro _ _ ⟨rfl, rfl⟩
    refine zss_cut (fun σ1 H1 => σ1 = [some (.ref p), some (.int k), some (.int k.natAbs), some (.int (b ^ (n - 1))), some (.int (abI b n k)), some (.int ((k.natAbs : Int) - abI b n k * eaI b n)), none] ∧ H = H1) (fun nx hnx => ?_) ?_
    · fail "za"
      refine nip_do g ?_
      fail "za"
      · have nB : Bd (6 + (6 * (n - 1) + 1)) (eaI b n) := Bd.mul (N := 6) (by unfold Bd; omega) (bb.pow _)
        have aB : Bd (6 * (n + 100)) (abI b n k) := by unfold Bd at *; omega
        exact aB.cmul nB (by omega)
      · exact hnx _ _ ⟨rfl, rfl⟩
    rintro _ _ ⟨rfl, rfl⟩
    refine zss_cut (fun σ1 H1 => σ1 = [some (.ref p), some (.int k), some (.int k.natAbs), some (.int (b ^ (n - 1))), some (.int (abI b n k)), some (.int (whI b n k)), none] ∧ H = H1) (fun nx hnx => ?_) ?_
    · unfold whI at hnx
      fail "za"
      · exact hnx _ _ ⟨by rw [if_pos (by assumption)], rfl⟩
      · exact hnx _ _ ⟨by rw [if_neg (by assumption)], rfl⟩
    rintro _ _ ⟨rfl, rfl⟩
    have wB : Bd (6 * (n + 100)) (whI b n k) := by
      unfold whI
      have a2 := ab0.2.1
      have a3 : 0 ≤ abI b n k * eaI b n := Int.mul_nonneg ab0.1 (by omega)
      generalize abI b n k * eaI b n = t at *
      unfold Bd at *
      split <;> omega
    fail "z0"
    rename_i q d nq nd nn
    refine ex_do nq nd nn b1 b9 wB (by omega) fun H1 c e s1 hx => ⟨rfl, ?_⟩
    obtain ⟨N, L, ft, k1, k2⟩ := h2 c e hx.2
    have hp1 := s1 _ _ hp
    fail "za"
    refine bey_do (g.same s1) hx.1 (hx.2.f b1) ft (fun H2 s2 => ⟨_, rfl, ?_⟩)
    fail "za"
    · rename_i ho y ny
      exact k1 ho y _ ((s1.trans s2).new ny.e) ⟨NoA.free (s1.trans s2) ny⟩ upd_same
    · rename_i ho
      exact k2 ho q _ (s1.trans s2) nq (ExF.same hx.1 s2)
structure ErT (P : Program) (K : PySem.W.Frag) (mg : Str → Option Value) (CG CM CN CR CL C : Addr) : Prop where
  eG : XCls P K mg "BadGrid" CG ["what"]
  eM : XCls P K mg "MixedBases" CM ["left", "right"]
  eN : XCls P K mg "NotANumber" CN ["value"]
  eR : XCls P K mg "NoRank" CR ["rank"]
  gL : mg "LostError" = some (.ref CL)
  gC : mg "Exact" = some (.ref C)
  mG : PySem.W.exmOne K (.ref CG) (.ref CL) = some true
  mM : PySem.W.exmOne K (.ref CM) (.ref CL) = some true
  mN : PySem.W.exmOne K (.ref CN) (.ref CL) = some true
  mR : PySem.W.exmOne K (.ref CR) (.ref CL) = some true
  g1 : PySem.W.kitOne K (.ref CG) (.ref CG) = some true
  g2 : PySem.W.kitOne K (.ref CG) (.ref CM) = some false
  g3 : PySem.W.kitOne K (.ref CG) (.ref CN) = some false
  g4 : PySem.W.kitOne K (.ref CG) (.ref CR) = some false
  m1 : PySem.W.kitOne K (.ref CM) (.ref CG) = some false
  m2 : PySem.W.kitOne K (.ref CM) (.ref CM) = some true
  m3 : PySem.W.kitOne K (.ref CM) (.ref CN) = some false
  m4 : PySem.W.kitOne K (.ref CM) (.ref CR) = some false
  n1 : PySem.W.kitOne K (.ref CN) (.ref CG) = some false
  n2 : PySem.W.kitOne K (.ref CN) (.ref CM) = some false
  n3 : PySem.W.kitOne K (.ref CN) (.ref CN) = some true
  n4 : PySem.W.kitOne K (.ref CN) (.ref CR) = some false
  r1 : PySem.W.kitOne K (.ref CR) (.ref CG) = some false
  r2 : PySem.W.kitOne K (.ref CR) (.ref CM) = some false
  r3 : PySem.W.kitOne K (.ref CR) (.ref CN) = some false
  r4 : PySem.W.kitOne K (.ref CR) (.ref CR) = some true
  a1 : PySem.W.findIn K (.ref CG) "what" = some none
  a2 : PySem.W.findIn K (.ref CM) "left" = some none
  a3 : PySem.W.findIn K (.ref CM) "right" = some none
  a4 : PySem.W.findIn K (.ref CN) "value" = some none
  a5 : PySem.W.findIn K (.ref CR) "rank" = some none
/-- an error and what the law tells of it -/
inductive ErrL (C CG CM CN CR : Addr) (H : Hp) : Value → Option Addr → List V → Prop
  | grid {dd : Addr} {z : Str} (h : H dd = some (.xd [("what", .str z)])) : ErrL C CG CM CN CR H (.ref CG) (some dd) [.str "grid", .str z]
  | bases {dd : Addr} {l r : Int} (h : H dd = some (.xd [("right", .int r), ("left", .int l)])) : ErrL C CG CM CN CR H (.ref CM) (some dd) [.str "bases", .int l, .int r]
  | number {dd q : Addr} {b c e : Int} (h : H dd = some (.xd [("value", .ref q)])) (x : ExF C H q b c e) : ErrL C CG CM CN CR H (.ref CN) (some dd) [.str "number", .int b, .int c, .int e]
  | rank {dd : Addr} {k : Int} (h : H dd = some (.xd [("rank", .int k)])) : ErrL C CG CM CN CR H (.ref CR) (some dd) [.str "rank", .int k]
theorem ErrL.sc {C CG CM CN CR : Addr} {H : Hp} {cls : Value} {d : Option Addr} {L : List V} (h : ErrL C CG CM CN CR H cls d L) : ∀ x ∈ L, Sc x := by
  cases h
  · exact Sc.cons (.str _) (Sc.cons (.str _) Sc.nil)
  · exact Sc.cons (.str _) (Sc.cons (.int _) (Sc.cons (.int _) Sc.nil))
  · exact Sc.cons (.str _) (Sc.cons (.int _) (Sc.cons (.int _) (Sc.cons (.int _) Sc.nil)))
  · exact Sc.cons (.str _) (Sc.cons (.int _) Sc.nil)
def spErr (C CG CM CN CR : Addr) : SpX := fun cls d a vs H Q _ => ∃ L, vs = [.ref a] ∧ ErrL C CG CM CN CR H cls d L ∧ ∀ l H', Same H H' → NoA H l → H' l = some (.lst L) → Q (.ref l) H'
theorem ok_err {f C CG CM CN CR CL : Addr} {fd : FuncData} (F : Fun K "_law_error" "_law_error" S__law_error f fd) (B : Blt mg) (XT : ExTxt K C) (T : ErT P K mg CG CM CN CR CL C) : RunX P w K mg base 1 f fd ["e"] (spErr C CG CM CN CR) := by
  have S := nk__law_error
  obtain ⟨eG, eM, eN, eR, gL, gC, mG, mM, mN, mR, g1, g2, g3, g4, m1, m2, m3, m4, n1, n2, n3, n4, r1, r2, r3, r4, a1, a2, a3, a4, a5⟩ := T
  have TG := eG.T
  have TM := eM.T
  have TN := eN.T
  have TR := eR.T
  have gG := eG.gC
  have gM := eM.gC
  have gN := eN.gC
  have gR := eR.gC
  obtain ⟨I, nb, nc, ne⟩ := XT
  have cl := I.cl
  refine FunX.run F sc__law_error (fun cls d a vs H Q E h => ?_) (fun cdv A outer s H vs Q E p cls d hot hz hf hr h => ?_)
  · obtain ⟨L, rfl, _⟩ := h; rfl
  · obtain ⟨L, rfl, hL, hQ⟩ := h
    obtain ⟨pa, po⟩ := p
    have hp : (pa, po) ∈ (L2H.cxH (L2N.CX P w) P w K mg base N__law_error "_law_error" (defScope S__law_error) f cdv A outer s H E (pa, po)).pn := List.mem_singleton.mpr rfl
    cases hL with
    | grid h =>
      show ZSs _ _ _ _ _ _ [some (.ref pa), none] H
      fail "z0"
      rename_i l nl
      exact hQ l _ (by fail "zsm") ⟨NoA.free (by fail "zsm") nl⟩ upd_same
    | bases h =>
      show ZSs _ _ _ _ _ _ [some (.ref pa), none] H
      fail "z0"
      rename_i l nl
      exact hQ l _ (by fail "zsm") ⟨NoA.free (by fail "zsm") nl⟩ upd_same
    | number h x =>
      obtain ⟨dx, hx⟩ := x
      unfold fsE at hx
      show ZSs _ _ _ _ _ _ [some (.ref pa), none] H
      fail "z0"
      rename_i l nl
      exact hQ l _ (by fail "zsm") ⟨NoA.free (by fail "zsm") nl⟩ upd_same
    | rank h =>
      show ZSs _ _ _ _ _ _ [some (.ref pa), none] H
      fail "z0"
      rename_i l nl
      exact hQ l _ (by fail "zsm") ⟨NoA.free (by fail "zsm") nl⟩ upd_same
def spTold (C G : Addr) : Sp := fun vs H Q _ => ∃ (p q : Addr) (b : Int) (n : Nat) (bo to : Option Int) (b2 c e : Int), vs = [.ref p, .ref q] ∧ Gd G H p b n bo to ∧ ExF C H q b2 c e ∧
  (bo = none → ∀ l H', Same H H' → H' l = some (.lst [.str "grid", .str "borders"]) → Q (.ref l) H') ∧
  (bo ≠ none → b ≠ b2 → ∀ l H', Same H H' → H' l = some (.lst [.str "bases", .int b, .int b2]) → Q (.ref l) H') ∧
  (∀ x, bo = some x → b = b2 → LowF b c e ∧ (∃ N L, Fit b N L to c e ∧ e - x ≤ 500) ∧
    (inG b n bo to c e = false → ∀ l H', Same H H' → H' l = some (.lst [.str "number", .int b, .int c, .int e]) → Q (.ref l) H') ∧
    (inG b n bo to c e = true → (c = 0 → ∀ l H', Same H H' → H' l = some (.lst [.str "told", .int 0]) → Q (.ref l) H') ∧ (c ≠ 0 → ∀ D l H', Dig b c D → Same H H' → H' l = some (.lst [.str "told", .int (rkI b n x c e (unitI n bo e D))]) → Q (.ref l) H')))
theorem ok_told {f C G CG CM CN CR CL : Addr} {fd : FuncData} (F : Fun K "_law_told_rank" "_law_told_rank" S__law_told_rank f fd) (T : ErT P K mg CG CM CN CR CL C) (cR : Cal P w K mg base 10 "rank_of" (spRank C G CM CN CG)) (cE : CalX P w K mg base 1 "_law_error" (spErr C CG CM CN CR)) : FnOk P w K mg base (L2N.CX P w) 11 f fd ["grid", "value"] (spTold C G) := by
  have S := nk__law_told_rank
  obtain ⟨eG, eM, eN, eR, gL, gC, mG, mM, mN, mR, _⟩ := T
  refine F.okN sc__law_told_rank (fun vs H Q E h => ?_) (fun cdv A outer s H vs Q E hr h => ?_)
  · obtain ⟨p, q, b, n, bo, to, b2, c, e, rfl, _⟩ := h; rfl
  · obtain ⟨p, q, b, n, bo, to, b2, c, e, rfl, g, xe, h1, h2, h3⟩ := h
    show ZSs _ _ _ _ _ _ [some (.ref p), some (.ref q), none] H
    refine zss_one ?_
    refine s_try (i := 2) gL S ⟨rfl, rfl, rfl, rfl, rfl, rfl⟩ ⟨rfl, rfl⟩ rfl rfl rfl rfl rfl (by decide) fun pn xe' tk hpo => ?_
    have err : ∀ {C' dd : Addr} {H1 : Hp} {L : List V}, PySem.W.exmOne K (.ref C') (.ref CL) = some true → Same H H1 → ErrL C CG CM CN CR H1 (.ref C') (some dd) L → (∀ l H', Same H H' → H' l = some (.lst L) → Q (.ref l) H') → XW (Cx.tr (cxN P w K mg base N__law_told_rank "_law_told_rank" (defScope S__law_told_rank) f cdv A outer s H E) pn xe') (.ref C') (some dd) [some (.ref p), some (.ref q), none] H1 := fun {C' dd H1 L} hm s1 el k => by
      refine tk _ _ _ _ ⟨true, hm, fun _ a na oe pn hz hf => ?_, fun h => nomatch h⟩
      show ZSs _ _ _ _ _ _ [some (.ref p), some (.ref q), some (.ref a)] _
      refine zss_one ?_
      fail "za"
      exact ⟨L, rfl, el, fun l H' s2 nl hl => k l H' (s1.trans s2) hl⟩
    fail "z0"
    refine ⟨p, q, b, n, bo, to, b2, c, e, rfl, g, xe, fun z x H1 s1 nx hx => err mG s1 (.grid hx) (h1 z), fun z nb x H1 s1 nx hx => err mM s1 (.bases hx) (h2 z nb), fun x hb eb => ?_⟩
    obtain ⟨lf, ft, k1, k2⟩ := h3 x hb eb
    refine ⟨lf, ft, fun i x H1 s1 nx hx => err mN s1 (.number hx (xe.same s1)) (by rw [← eb]; exact k1 i), fun i => ?_⟩
    obtain ⟨k3, k4⟩ := k2 i
    refine ⟨fun c0 H1 s1 => ?_, fun c0 D H1 hd s1 => ?_⟩
    · fail "za"
      rename_i l nl
      exact k3 c0 l _ (s1.new nl.e) upd_same
    · fail "za"
      rename_i l nl
      exact k4 c0 D l _ hd (s1.new nl.e) upd_same
def spNoN (C G : Addr) : Sp := fun vs H Q _ => ∃ (p : Addr) (b : Int) (n : Nat) (bo to : Option Int) (k : Int), vs = [.ref p, .int k] ∧ Gd G H p b n bo to ∧
  (bo = none → ∀ l H', Same H H' → H' l = some (.lst [.str "grid", .str "borders"]) → Q (.ref l) H') ∧
  (∀ x, bo = some x → Sm b (n + 100) k ∧ (∀ c e, Low b (whI b n k) (x + abI b n k) c e → ∃ N L, Fit b N L to c e ∧ over b n to c e = true) ∧ ∀ l H', Same H H' → H' l = some (.lst [.str "rank", .int k]) → Q (.ref l) H')
theorem ok_non {f C G CG CM CN CR CL : Addr} {fd : FuncData} (F : Fun K "_law_no_number" "_law_no_number" S__law_no_number f fd) (T : ErT P K mg CG CM CN CR CL C) (cR : Cal P w K mg base 8 "number_at" (spNumA C G CR CG)) (cE : CalX P w K mg base 1 "_law_error" (spErr C CG CM CN CR)) : FnOk P w K mg base (L2N.CX P w) 9 f fd ["grid", "rank"] (spNoN C G) := by
  have S := nk__law_no_number
  obtain ⟨eG, eM, eN, eR, gL, gC, mG, mM, mN, mR, _⟩ := T
  refine F.okN sc__law_no_number (fun vs H Q E h => ?_) (fun cdv A outer s H vs Q E hr h => ?_)
  · obtain ⟨p, b, n, bo, to, k, rfl, _⟩ := h; rfl
  · obtain ⟨p, b, n, bo, to, k, rfl, g, h1, h2⟩ := h
    show ZSs _ _ _ _ _ _ [some (.ref p), some (.int k), none] H
    refine zss_cons ?_
    refine s_try (i := 2) gL S ⟨rfl, rfl, rfl, rfl, rfl, rfl⟩ ⟨rfl, rfl⟩ rfl rfl rfl rfl rfl (by decide) fun pn xe' tk hpo => ?_
    have err : ∀ {C' dd : Addr} {H1 : Hp} {L : List V}, PySem.W.exmOne K (.ref C') (.ref CL) = some true → Same H H1 → ErrL C CG CM CN CR H1 (.ref C') (some dd) L → (∀ l H', Same H H' → H' l = some (.lst L) → Q (.ref l) H') → XW (Cx.tr (cxN P w K mg base N__law_no_number "_law_no_number" (defScope S__law_no_number) f cdv A outer s H E) pn xe') (.ref C') (some dd) [some (.ref p), some (.int k), none] H1 := fun {C' dd H1 L} hm s1 el k => by
      refine tk _ _ _ _ ⟨true, hm, fun _ a na oe pn hz hf => ?_, fun h => nomatch h⟩
      show ZSs _ _ _ _ _ _ [some (.ref p), some (.int _), some (.ref a)] _
      refine zss_one ?_
      fail "za"
      exact ⟨L, rfl, el, fun l H' s2 nl hl => k l H' (s1.trans s2) hl⟩
    fail "z0"
    refine ⟨p, b, n, bo, to, k, rfl, g, fun z x H1 s1 nx hx => err mG s1 (.grid hx) (h1 z), fun x hb => ?_⟩
    obtain ⟨sk, k1, k2⟩ := h2 x hb
    refine ⟨sk, fun c e lw => ?_⟩
    obtain ⟨N, L, ft, ho⟩ := k1 c e lw
    exact ⟨N, L, ft, fun _ x H1 s1 nx hx => err mR s1 (.rank hx) k2, fun z => by rw [ho] at z; cases z⟩
/-! the plain law of ranks -/
theorem Low.abs {b c e c' e' : Int} (b1 : 2 ≤ b) (h : Low b c e c' e') : Low b c.natAbs e c'.natAbs e' := by
  rcases h with ⟨rfl, rfl, rfl⟩ | ⟨c0, k, hk, nk, rfl⟩
  · exact .inl ⟨rfl, rfl, rfl⟩
  · refine .inr ⟨by omega, k, ?_, fun z => nk (Int.dvd_natAbs.mp z), rfl⟩
    rw [← hk, Int.natAbs_mul, Int.natAbs_pow]
    push_cast
    rw [show ((b.natAbs : Nat) : Int) = b by omega]
theorem Vl_mono {b m c d e : Int} (b1 : 2 ≤ b) (h : c ≤ d) : Vl b m c e ≤ Vl b m d e := Int.mul_le_mul_of_nonneg_right h (Int.le_of_lt (Int.pow_pos (by omega)))
theorem over_f {b c e c' e' : Int} {n : Nat} {to : Option Int} (b1 : 2 ≤ b) (n1 : 1 ≤ n) (lw : Low b c e c' e') (h : (c.natAbs : Int) < b ^ n) (ht : ∀ t, to = some t → e ≤ t) : over b n to c' e' = false := by
  rcases to with _ | t
  · rfl
  · have ht := ht t rfl
    by_cases c0 : c' = 0
    · subst c0; exact over_zero b1 n1
    · refine decide_eq_false ?_
      have ee : e ≤ e' := (lw.ge (.inr (Int.le_refl e))).resolve_left c0
      have ml := minI_le e' t
      have mm : e ≤ minI e' t := by rcases ml.2.2 with h | h <;> omega
      rw [← Vl_up b1 mm (.inl ml.2.1) (.inl ml.1), (lw.abs b1).vl (.inr (Int.le_refl e)), Vl_self]
      have gp : (0 : Int) < b ^ (t - e).toNat := Int.pow_pos (by omega)
      have := Int.mul_le_mul_of_nonneg_left (show 1 ≤ b ^ (t - e).toNat by omega) (show 0 ≤ gC b n by have := gC_pos b1 n1; omega)
      unfold Vl
      unfold gC at *
      omega
theorem over_t {b c e c' e' t : Int} {n : Nat} (b1 : 2 ≤ b) (n1 : 1 ≤ n) (lw : Low b c e c' e') (h : b ^ (n - 1) ≤ (c.natAbs : Int)) (ht : t < e) : over b n (some t) c' e' = true := by
  have pm : (0 : Int) < b ^ (n - 1) := Int.pow_pos (by omega)
  have c0 : c' ≠ 0 := fun z => by
    rcases lw with ⟨rfl, _⟩ | ⟨q, k, hk, _⟩
    · simp at h; omega
    · rw [z, Int.zero_mul] at hk; omega
  have ee : e ≤ e' := (lw.ge (.inr (Int.le_refl e))).resolve_left c0
  refine decide_eq_true ?_
  rw [show minI e' t = t by unfold minI; split <;> omega, Vl_self, (lw.abs b1).vl (.inr (by omega))]
  obtain ⟨j, hj⟩ : ∃ j, (e - t).toNat = j + 1 := ⟨(e - t).toNat - 1, by omega⟩
  unfold Vl
  rw [hj, Int.pow_succ]
  have pj : (0 : Int) < b ^ j := Int.pow_pos (by omega)
  have m1 := Int.mul_le_mul_of_nonneg_right (show 1 ≤ b ^ j by omega) (show 0 ≤ b by omega)
  have m2 := Int.mul_le_mul_of_nonneg_left m1 (show 0 ≤ (c.natAbs : Int) by omega)
  have m3 := Int.mul_le_mul_of_nonneg_right h (show 0 ≤ b by omega)
  have e1 : b ^ n = b ^ (n - 1) * b := by conv => lhs; rw [show n = (n - 1) + 1 by omega]
                                          exact Int.pow_succ ..
  unfold gC
  rw [Int.one_mul] at m2
  omega
theorem dig_sum {b c c' : Int} {k D n : Nat} (b1 : 2 ≤ b) (hk : c' * b ^ k = c) (c0 : c' ≠ 0) (hd : Dig b c' D) (h : (c.natAbs : Int) < b ^ n) : D + k ≤ n ∧ (∀ m : Nat, b ^ m ≤ (c.natAbs : Int) → m < D + k) := by
  obtain ⟨j, rfl, h1, h2⟩ := (hd.resolve_left fun z => c0 z.1).2
  have pk : (0 : Int) < b ^ k := Int.pow_pos (by omega)
  have ea : (c.natAbs : Int) = c'.natAbs * b ^ k := by
    rw [← hk, Int.natAbs_mul, Int.natAbs_pow]; push_cast; rw [show ((b.natAbs : Nat) : Int) = b by omega]
  have q1 := Int.mul_le_mul_of_nonneg_right h1 (Int.le_of_lt pk)
  have q2 := Int.mul_lt_mul_of_pos_right h2 pk
  rw [← Int.pow_add] at q1 q2
  constructor
  · refine Nat.not_lt.mp fun z => ?_
    have := ipow_le (b := b) (by omega) (show n ≤ j + k by omega)
    omega
  · intro m hm
    refine Nat.lt_of_not_le fun z => ?_
    have := ipow_le (b := b) (by omega) (show j + 1 + k ≤ m by omega)
    omega
theorem sgnI_sgn {b c e c' e' : Int} (b1 : 2 ≤ b) (lw : Low b c e c' e') : sgnI c' = sgnI c := by
  rcases lw with ⟨rfl, rfl, _⟩ | ⟨c0, k, hk, _⟩
  · rfl
  · have pk : (0 : Int) < b ^ k := Int.pow_pos (by omega)
    unfold sgnI
    rcases Int.lt_trichotomy c' 0 with h | h | h
    · have := Int.mul_neg_of_neg_of_pos h pk
      rw [if_neg (by omega), if_pos h, if_neg (by omega), if_pos (by omega)]
    · subst h; rw [Int.zero_mul] at hk; exact absurd hk.symm c0
    · have := Int.mul_pos h pk
      rw [if_pos h, if_pos (by omega)]
theorem rk_law {b x ab wh s : Int} {n : Nat} {to : Option Int} (b1 : 2 ≤ b) (n1 : 3 ≤ n) (w1 : 1 ≤ wh) (w9 : wh < b ^ n) (a0 : 0 ≤ ab) (hw : ab = 0 ∨ b ^ (n - 1) ≤ wh) (hs : s = 1 ∨ s = -1) (ht : ∀ t, to = some t → x + ab ≤ t) {c' e' : Int} (lw : Low b (s * wh) (x + ab) c' e') :
    inG b n (some x) to c' e' = true ∧ c' ≠ 0 ∧ (∀ D, Dig b c' D → rkI b n x c' e' (unitI n (some x) e' D) = s * (wh + ab * eaI b n)) := by
  have na : ((s * wh).natAbs : Int) = wh := by rcases hs with rfl | rfl <;> omega
  have c0 : s * wh ≠ 0 := fun z => by rw [z] at na; simp at na; omega
  have ho := over_f (n := n) b1 (by omega) lw (by rw [na]; exact w9) ht
  obtain ⟨_, k, hk, nk, rfl⟩ := lw.resolve_left fun z => c0 z.1
  have c0' : c' ≠ 0 := fun z => c0 (by rw [← hk, z, Int.zero_mul])
  have lw' : Low b (s * wh) (x + ab) c' (x + ab + k) := .inr ⟨c0, k, hk, nk, rfl⟩
  have sg := sgnI_sgn b1 lw'
  have pk : (0 : Int) < b ^ k := Int.pow_pos (by omega)
  have ea : ((s * wh).natAbs : Int) = c'.natAbs * b ^ k := by
    rw [← hk, Int.natAbs_mul, Int.natAbs_pow]; push_cast; rw [show ((b.natAbs : Nat) : Int) = b by omega]
  have le : (c'.natAbs : Int) ≤ wh := by
    have := Int.mul_le_mul_of_nonneg_left (show 1 ≤ b ^ k by omega) (show 0 ≤ (c'.natAbs : Int) by omega)
    omega
  refine ⟨?_, c0', fun D hd => ?_⟩
  · unfold inG
    rw [ho, decide_eq_true (show (c'.natAbs : Int) < b ^ n by omega)]
    simp only [Bool.true_and, Bool.not_false, Bool.and_true]
    rw [decide_eq_true (show x ≤ x + ab + (k : Int) by omega), Bool.or_true]
  · obtain ⟨d1, d2⟩ := dig_sum b1 hk c0' hd (show ((s * wh).natAbs : Int) < b ^ n by rw [na]; exact w9)
    have hu : unitI n (some x) (x + ab + k) D = x + ab := by
      unfold unitI
      simp only []
      rcases hw with rfl | hw
      · split <;> omega
      · have := d2 (n - 1) (by rw [na]; exact hw)
        split <;> omega
    rw [hu]
    unfold rkI
    rw [sg, show (x + ab + (k : Int) - (x + ab)).toNat = k by omega, ← ea, na, show x + ab - x = ab by omega]
    have : sgnI (s * wh) = s := by rcases hs with rfl | rfl <;> (unfold sgnI; (try rw [if_pos (by omega)]); (try rw [if_neg (by omega), if_pos (by omega)]))
    rw [this]
theorem ab_law {b ab wh s : Int} {n : Nat} (b1 : 2 ≤ b) (n1 : 3 ≤ n) (w0 : 0 ≤ wh) (w9 : wh < b ^ n) (a0 : 0 ≤ ab) (hw : ab = 0 ∨ b ^ (n - 1) ≤ wh) (hs : s = 1 ∨ s = -1) :
    abI b n (s * (wh + ab * eaI b n)) = ab ∧ whI b n (s * (wh + ab * eaI b n)) = s * wh := by
  have ep := eaI_pos b1 n1
  have t0 : 0 ≤ ab * eaI b n := Int.mul_nonneg a0 (by omega)
  have na : ((s * (wh + ab * eaI b n)).natAbs : Int) = wh + ab * eaI b n := by rcases hs with rfl | rfl <;> omega
  have h1 : abI b n (s * (wh + ab * eaI b n)) = ab := by
    unfold abI
    rw [na]
    split
    · rename_i hl
      rcases hw with rfl | hw
      · rw [Int.zero_mul, Int.add_zero] at *
        exact Int.ediv_eq_zero_of_lt (by omega) (by omega)
      · rw [show wh + ab * eaI b n - b ^ (n - 1) = (wh - b ^ (n - 1)) + ab * eaI b n by omega, Int.add_mul_ediv_right _ _ (by omega), Int.ediv_eq_zero_of_lt (by omega) (by omega)]
        omega
    · rename_i hl
      rcases hw with rfl | hw
      · rfl
      · omega
  refine ⟨h1, ?_⟩
  unfold whI
  rw [h1, na]
  generalize ab * eaI b n = t at *
  split
  · rcases hs with rfl | rfl <;> omega
  · rcases hs with rfl | rfl <;> omega
structure BW (b : Int) (n : Nat) (x : Int) (to : Option Int) (c e k : Int) : Prop where
  sm : Sm b 110 c
  f1 : ∀ c' e', Low b c e c' e' → (∃ N L, Fit b N L to c' e' ∧ e' - x ≤ 500) ∧ inG b n (some x) to c' e' = true ∧ (c' = 0 → k = 0) ∧ (c' ≠ 0 → ∀ D, Dig b c' D → rkI b n x c' e' (unitI n (some x) e' D) = k)
  sk : Sm b (n + 100) k
  f2 : ∀ c2 e2, Low b (whI b n k) (x + abI b n k) c2 e2 → (∃ N L, Fit b N L to c2 e2 ∧ over b n to c2 e2 = false) ∧ Low b c e c2 e2
theorem bw_fit {b x ab c c' e' : Int} {to : Option Int} (b1 : 2 ≤ b) (x1 : -20 ≤ x) (x9 : x ≤ 20) (a0 : 0 ≤ ab) (a9 : ab ≤ 400) (ht : ∀ t, to = some t → -20 ≤ t ∧ t ≤ 50) (sm : Sm b 40 c) (lw : Low b c (x + ab) c' e') : Fit b 40 600 to c' e' ∧ e' - x ≤ 500 := by
  have := lw.exp sm b1
  refine ⟨⟨lw.sm sm (by omega), fun t z => ?_, by omega⟩, by omega⟩
  have := ht t z
  omega
theorem sm_lt {b c : Int} {n : Nat} (b1 : 2 ≤ b) (h : (c.natAbs : Int) < b ^ n) : Sm b n c := by
  unfold Sm
  have : ((b.natAbs ^ n : Nat) : Int) = b ^ n := by push_cast; rw [show ((b.natAbs : Nat) : Int) = b by omega]
  omega
theorem pow2_le {b : Int} (b1 : 2 ≤ b) (n m : Nat) : 2 ^ m * b ^ n ≤ b ^ (n + m) := by
  rw [Int.pow_add, Int.mul_comm]
  exact Int.mul_le_mul_of_nonneg_left (two_pow_le b1 m) (Int.le_of_lt (Int.pow_pos (by omega)))
theorem k_sm {b ab wh s : Int} {n : Nat} (b1 : 2 ≤ b) (n1 : 3 ≤ n) (w0 : 0 ≤ wh) (w9 : wh < b ^ n) (a0 : 0 ≤ ab) (a9 : ab ≤ 400) (hs : s = 1 ∨ s = -1) : Sm b (n + 100) (s * (wh + ab * eaI b n)) := by
  have ep := eaI_pos b1 n1
  have na : ((s * (wh + ab * eaI b n)).natAbs : Int) = wh + ab * eaI b n := by
    have t0 : 0 ≤ ab * eaI b n := Int.mul_nonneg a0 (by omega)
    generalize ab * eaI b n = t at *
    rcases hs with rfl | rfl <;> omega
  have pm : (0 : Int) < b ^ (n - 1) := Int.pow_pos (by omega)
  have m1 := Int.mul_le_mul_of_nonneg_right a9 (show 0 ≤ eaI b n by omega)
  have m2 := pow2_le b1 n 9
  refine (sm_lt (n := n + 9) b1 ?_).mono (by omega) (by omega)
  rw [na]
  have : (2 : Int) ^ 9 = 512 := by decide
  rw [this] at m2
  omega
theorem bw_of {b x ab wh s : Int} {n : Nat} {to : Option Int} (b1 : 2 ≤ b) (n1 : 3 ≤ n) (n9 : n ≤ 40) (x1 : -20 ≤ x) (x9 : x ≤ 20) (w1 : 1 ≤ wh) (w9 : wh < b ^ n) (a0 : 0 ≤ ab) (a9 : ab ≤ 400) (hw : ab = 0 ∨ b ^ (n - 1) ≤ wh) (hs : s = 1 ∨ s = -1) (ht : ∀ t, to = some t → x + ab ≤ t ∧ -20 ≤ t ∧ t ≤ 50) : BW b n x to (s * wh) (x + ab) (s * (wh + ab * eaI b n)) := by
  have na : ((s * wh).natAbs : Int) = wh := by rcases hs with rfl | rfl <;> omega
  have s1 : Sm b n (s * wh) := sm_lt b1 (by rw [na]; exact w9)
  have s40 : Sm b 40 (s * wh) := s1.mono (by omega) n9
  obtain ⟨e1, e2⟩ := ab_law b1 n1 (show 0 ≤ wh by omega) w9 a0 hw hs
  refine ⟨s40.mono (by omega) (by omega), fun c' e' lw => ?_, k_sm b1 n1 (by omega) w9 a0 a9 hs, fun c2 e2' lw => ?_⟩
  · obtain ⟨r1, r2, r3⟩ := rk_law b1 n1 w1 w9 a0 hw hs (fun t z => (ht t z).1) lw
    exact ⟨⟨40, 600, bw_fit b1 x1 x9 a0 a9 (fun t z => (ht t z).2) s40 lw⟩, r1, fun z => absurd z r2, fun _ => r3⟩
  · rw [e1, e2] at lw
    exact ⟨⟨40, 600, (bw_fit b1 x1 x9 a0 a9 (fun t z => (ht t z).2) s40 lw).1, over_f (n := n) b1 (by omega) lw (by rw [na]; exact w9) (fun t z => (ht t z).1)⟩, lw⟩
theorem bw_zero {b x : Int} {n : Nat} {to : Option Int} (b1 : 2 ≤ b) (n1 : 3 ≤ n) (n9 : n ≤ 40) (x1 : -20 ≤ x) (x9 : x ≤ 20) (ht : ∀ t, to = some t → -20 ≤ t ∧ t ≤ 50) : BW b n x to 0 0 0 := by
  have pm : (0 : Int) < b ^ (n - 1) := Int.pow_pos (by omega)
  have pn : (0 : Int) < b ^ n := Int.pow_pos (by omega)
  have z : ∀ {e c' e' : Int}, Low b 0 e c' e' → c' = 0 ∧ e' = 0 := fun h => by
    rcases h with ⟨_, h1, h2⟩ | ⟨h, _⟩
    · exact ⟨h1, h2⟩
    · exact absurd rfl h
  have ft : Fit b 40 600 to 0 0 := ⟨Sm.zero b1, fun t z => by have := ht t z; omega, by omega⟩
  refine ⟨Sm.zero b1, fun c' e' lw => ?_, Sm.zero b1, fun c2 e2 lw => ?_⟩
  · obtain ⟨rfl, rfl⟩ := z lw
    refine ⟨⟨40, 600, ft, by omega⟩, ?_, fun _ => rfl, fun h => absurd rfl h⟩
    unfold inG; rfl
  · have h1 : abI b n 0 = 0 := by unfold abI; rw [if_neg (by simp; omega)]
    have h2 : whI b n 0 = 0 := by unfold whI; rw [h1, if_neg (by omega)]; simp
    rw [h1, h2] at lw
    obtain ⟨rfl, rfl⟩ := z lw
    exact ⟨⟨40, 600, ft, over_zero b1 (by omega)⟩, .inl ⟨rfl, rfl, rfl⟩⟩
def spBoth (G : Addr) : Sp := fun vs H Q _ => ∃ (p q : Addr) (b : Int) (n : Nat) (x : Int) (to : Option Int) (c e k : Int), vs = [.ref p, .int b, .ref q, .int k] ∧ Gd G H p b n (some x) to ∧ H q = some (.tup [.int c, .int e]) ∧ BW b n x to c e k ∧ ∀ H', Same H H' → Q (.bl true) H'
theorem both_do {G p q : Addr} {b : Int} {n : Nat} {x : Int} {to : Option Int} {c e k : Int} {H : Hp} {Q : VK} {E : XK} (g : Gd G H p b n (some x) to) (hq : H q = some (.tup [.int c, .int e])) (w : BW b n x to c e k) (h : ∀ H', Same H H' → Q (.bl true) H') : spBoth G [.ref p, .int b, .ref q, .int k] H Q E := ⟨p, q, b, n, x, to, c, e, k, rfl, g, hq, w, h⟩
theorem ok_both {f C G CR CG : Addr} {fd : FuncData} (F : Fun K "_law_both_ways" "_law_both_ways" S__law_both_ways f fd) (cM : Cal P w K mg base 5 "_law_make" (spMakeL C)) (cT : Cal P w K mg base 11 "_law_told_rank" (spTold C G)) (cE : Cal P w K mg base 2 "_law_equal" (spEq K 1)) (cN : Cal P w K mg base 8 "number_at" (spNumA C G CR CG)) (cI : Cal P w K mg base 3 "_law_is" (spIs C)) : FnOk P w K mg base (L2N.CX P w) 12 f fd ["grid", "base", "x", "rank"] (spBoth G) := by
  have S := nk__law_both_ways
  refine F.okN sc__law_both_ways (fun vs H Q E h => ?_) (fun cdv A outer s H vs Q E hr h => ?_)
  · obtain ⟨p, q, b, n, x, to, c, e, k, rfl, _⟩ := h; rfl
  · obtain ⟨p, q, b, n, x, to, c, e, k, rfl, g, hq, ⟨sm, f1, sk, f2⟩, hQ⟩ := h
    have b1 := g.b1
    have b9 := g.b9
    have cB := sm.bd (by omega) b9
    show ZSs _ _ _ _ _ _ [some (.ref p), some (.int b), some (.ref q), some (.int k)] H
    fail "z0"
    refine make_do hq b1 b9 cB (by omega) (fun u H1 c' e' s1 nu xu => ?_)
    obtain ⟨ft, hi, k0, k1⟩ := f1 c' e' xu.2
    have go : ∀ {H2 : Hp} {l : Addr} {R : VK}, Same H1 H2 → H2 l = some (.lst [.str "told", .int k]) → True := fun _ _ => trivial
    fail "za"
    refine ⟨p, u, b, n, some x, to, b, c', e', rfl, g.same s1, xu.1, fun z => (by cases z), fun _ z => absurd rfl z, fun y hy _ => ?_⟩
    cases hy
    have key : ∀ l H2 (R : NX), Same H1 H2 → H2 l = some (.lst [.str "told", .int k]) → True := fun _ _ _ _ _ => trivial
    refine ⟨xu.2.f b1, ft, fun z => (by rw [hi] at z; cases z), fun _ => ⟨fun z l H2 s2 hl => ?_, fun z D l H2 hd s2 hl => ?_⟩⟩
    · have kz := k0 z
      subst kz
      fail "za"
      refine equal_do (.lstS (SqL.of (by fail "zh")) (SqL.of (by fail "zh")) (Nat.le_of_ble_eq_true rfl) (by fail "zsc")) ?_
      fail "za"
      rename_i l2 nl2
      have s3 : Same H (upd H2 l2 (.lst [.str "told", .int 0])) := by fail "zsm"
      refine ⟨p, b, n, some x, to, 0, rfl, g.same s3, fun z => (by cases z), fun y hy => ?_⟩
      cases hy
      refine ⟨sk, fun c2 e2 lw => ?_⟩
      obtain ⟨⟨N, L, ft2, ho⟩, lw2⟩ := f2 c2 e2 lw
      refine ⟨N, L, ft2, fun z => (by rw [ho] at z; cases z), fun _ v H4 s4 nv xv => ?_⟩
      fail "za"
      exact is_do b1 b9 ⟨v, q, c, e, c2, e2, rfl, rfl, xv, s4 _ _ (s3 _ _ hq), lw2, cB.mono (by omega)⟩ (fun H5 s5 => hQ _ ((s3.trans s4).trans s5))
    · rw [k1 z D hd] at hl
      fail "za"
      refine equal_do (.lstS (SqL.of (by fail "zh")) (SqL.of (by fail "zh")) (Nat.le_of_ble_eq_true rfl) (by fail "zsc")) ?_
      fail "za"
      rename_i l2 nl2
      have s3 : Same H (upd H2 l2 (.lst [.str "told", .int k])) := by fail "zsm"
      refine ⟨p, b, n, some x, to, k, rfl, g.same s3, fun z => (by cases z), fun y hy => ?_⟩
      cases hy
      refine ⟨sk, fun c2 e2 lw => ?_⟩
      obtain ⟨⟨N, L, ft2, ho⟩, lw2⟩ := f2 c2 e2 lw
      refine ⟨N, L, ft2, fun z => (by rw [ho] at z; cases z), fun _ v H4 s4 nv xv => ?_⟩
      fail "za"
      exact is_do b1 b9 ⟨v, q, c, e, c2, e2, rfl, rfl, xv, s4 _ _ (s3 _ _ hq), lw2, cB.mono (by omega)⟩ (fun H5 s5 => hQ _ ((s3.trans s4).trans s5))
def spRR (G : Addr) : Sp := fun vs H Q _ => ∃ (p : Addr) (b : Int) (n : Nat) (x : Int) (to : Option Int) (wh ab : Int), vs = [.ref p, .int b, .int x, .int wh, .int ab, .int (eaI b n)] ∧ Gd G H p b n (some x) to ∧ n ≤ 40 ∧ -20 ≤ x ∧ x ≤ 20 ∧ 1 ≤ wh ∧ wh < b ^ n ∧ 0 ≤ ab ∧ ab ≤ 400 ∧ (ab = 0 ∨ b ^ (n - 1) ≤ wh) ∧ (∀ t, to = some t → x + ab ≤ t ∧ -20 ≤ t ∧ t ≤ 50) ∧ ∀ H', Same H H' → Q (.bl true) H'
theorem rr_do {G p : Addr} {b : Int} {n : Nat} {x : Int} {to : Option Int} {wh ab : Int} {H : Hp} {Q : VK} {E : XK} (g : Gd G H p b n (some x) to) (n9 : n ≤ 40) (x1 : -20 ≤ x) (x9 : x ≤ 20) (w1 : 1 ≤ wh) (w9 : wh < b ^ n) (a0 : 0 ≤ ab) (a9 : ab ≤ 400) (hw : ab = 0 ∨ b ^ (n - 1) ≤ wh) (ht : ∀ t, to = some t → x + ab ≤ t ∧ -20 ≤ t ∧ t ≤ 50) (h : ∀ H', Same H H' → Q (.bl true) H') : spRR G [.ref p, .int b, .int x, .int wh, .int ab, .int (eaI b n)] H Q E := ⟨p, b, n, x, to, wh, ab, rfl, g, n9, x1, x9, w1, w9, a0, a9, hw, ht, h⟩
theorem ok_rr {f G : Addr} {fd : FuncData} (F : Fun K "_law_ranks_right" "_law_ranks_right" S__law_ranks_right f fd) (cB : Cal P w K mg base 12 "_law_both_ways" (spBoth G)) : FnOk P w K mg base (L2N.CX P w) 13 f fd ["grid", "base", "bottom", "whole", "above", "each"] (spRR G) := by
  have S := nk__law_ranks_right
  refine F.okN sc__law_ranks_right (fun vs H Q E h => ?_) (fun cdv A outer s H vs Q E hr h => ?_)
  · obtain ⟨p, b, n, x, to, wh, ab, rfl, _⟩ := h; rfl
  · obtain ⟨p, b, n, x, to, wh, ab, rfl, g, n9, x1, x9, w1, w9, a0, a9, hw, ht, hQ⟩ := h
    have b1 := g.b1
    have b9 := g.b9
    have n1 := g.n1
    have bb : Bd 6 b := by unfold Bd; omega
    have w1' := bw_of b1 n1 n9 x1 x9 w1 w9 a0 a9 hw (.inl rfl) ht
    have w2' := bw_of b1 n1 n9 x1 x9 w1 w9 a0 a9 hw (.inr rfl) ht
    rw [Int.one_mul, Int.one_mul] at w1'
    rw [Int.neg_mul, Int.one_mul, Int.neg_mul, Int.one_mul, ← Int.zero_sub, ← Int.zero_sub] at w2'
    show ZSs _ _ _ _ _ _ [some (.ref p), some (.int b), some (.int x), some (.int wh), some (.int ab), some (.int (eaI b n)), none] H
    have aB : Bd 9 ab ∧ Bd (6 + (6 * (n - 1) + 1)) (eaI b n) := ⟨by unfold Bd; omega, Bd.mul (N := 6) (by unfold Bd; omega) (bb.pow _)⟩
    fail "z0"
    all_goals try exact aB.1.cmul aB.2 (by omega)
    refine both_do (g.same (by fail "zsm")) (by fail "zh") w1' (fun H1 s1 => ?_)
    fail "za"
    refine both_do (g.same (by fail "zsm")) (by fail "zh") w2' (fun H2 s2 => ?_)
    exact hQ _ (by fail "zsm")
def spOB : Sp := fun vs H Q _ => ∃ (s : Addr) (b : Int), vs = [.ref s, .int b] ∧ Src H s ∧ 2 ≤ b ∧ b ≤ 36 ∧ ∀ o : Int, 2 ≤ o → o ≤ 36 → b ≠ o → Q (.int o) H
theorem ob_do {s : Addr} {b : Int} {H : Hp} {Q : VK} {E : XK} (h : Src H s) (b1 : 2 ≤ b) (b9 : b ≤ 36) (k : ∀ o : Int, 2 ≤ o → o ≤ 36 → b ≠ o → Q (.int o) H) : spOB [.ref s, .int b] H Q E := ⟨s, b, rfl, h, b1, b9, k⟩
theorem ok_ob {f : Addr} {fd : FuncData} (F : Fun K "_law_other_base" "_law_other_base" S__law_other_base f fd) (B : Blt mg) (cD : Cal P w K mg base 1 "_law_draw" spDraw) : FnOk P w K mg base (L2N.CX P w) 2 f fd ["source", "base"] spOB := by
  have S := nk__law_other_base
  refine F.okN sc__law_other_base (fun vs H Q E h => ?_) (fun cdv A outer s0 H vs Q E hr h => ?_)
  · obtain ⟨s, b, rfl, _⟩ := h; rfl
  · obtain ⟨s, b, rfl, hs, b1, b9, hQ⟩ := h
    show ZSs _ _ _ _ _ _ [some (.ref s), some (.int b)] H
    fail "z0"
    exact hQ _ (by omega) (by omega) (by omega)
def spAbv : Sp := fun vs H Q _ => ∃ (s : Addr) (ro : Option Int), vs = [.ref s, ov ro] ∧ Src H s ∧ (∀ r, ro = some r → 0 ≤ r) ∧ ∀ a : Int, 0 ≤ a → a ≤ 59 → (∀ r, ro = some r → a ≤ r) → Q (.int a) H
theorem abv_do {s : Addr} {ro : Option Int} {H : Hp} {Q : VK} {E : XK} (h : Src H s) (r0 : ∀ r, ro = some r → 0 ≤ r) (k : ∀ a : Int, 0 ≤ a → a ≤ 59 → (∀ r, ro = some r → a ≤ r) → Q (.int a) H) : spAbv [.ref s, ov ro] H Q E := ⟨s, ro, rfl, h, r0, k⟩
theorem ok_abv {f : Addr} {fd : FuncData} (F : Fun K "_law_above" "_law_above" S__law_above f fd) (B : Blt mg) (cD : Cal P w K mg base 1 "_law_draw" spDraw) : FnOk P w K mg base (L2N.CX P w) 2 f fd ["source", "room"] spAbv := by
  have S := nk__law_above
  refine F.okN sc__law_above (fun vs H Q E h => ?_) (fun cdv A outer s0 H vs Q E hr h => ?_)
  · obtain ⟨s, ro, rfl, _⟩ := h; rfl
  · obtain ⟨s, ro, rfl, hs, r0, hQ⟩ := h
    show ZSs _ _ _ _ _ _ [some (.ref s), some (ov ro), none, none] H
    refine zss_cut (fun σ1 H1 => ∃ v : Int, σ1 = [some (.ref s), some (ov ro), some (.int v), none] ∧ H = H1) (fun nx hnx => ?_) ?_
    · fail "za"
      exact hnx _ _ ⟨_, rfl, rfl⟩
    rintro _ _ ⟨v, rfl, rfl⟩
    obtain ⟨Iv, hIv⟩ : ∃ Iv : L2.St → Hp → Prop, Iv = fun σ1 H1 => ∃ a : Int, σ1 = [some (.ref s), some (ov ro), some (.int v), some (.int a)] ∧ H = H1 ∧ 0 ≤ a ∧ a ≤ 59 := ⟨_, rfl⟩
    have hI : ∀ (nx : NX), (∀ σ1 H1, Iv σ1 H1 → nx σ1 H1) → ∀ a : Int, 0 ≤ a → a ≤ 59 → nx [some (.ref s), some (ov ro), some (.int v), some (.int a)] H := fun nx h a a0 a9 => h _ _ (by rw [hIv]; exact ⟨a, rfl, rfl, a0, a9⟩)
    refine zss_cut Iv (fun nx hnx => ?_) ?_
    · fail "za"
      exact hI nx hnx _ (by omega) (by omega)
    intro σ1 H1 h1
    rw [hIv] at h1
    obtain ⟨a, rfl, rfl, a0, a9⟩ := h1
    refine zss_cut Iv (fun nx hnx => ?_) ?_
    · fail "za"
      all_goals exact hI nx hnx _ (by omega) (by omega)
    intro σ1 H1 h1
    rw [hIv] at h1
    obtain ⟨a, rfl, rfl, a0, a9⟩ := h1
    refine zss_cut Iv (fun nx hnx => ?_) ?_
    · fail "za"
      all_goals exact hI nx hnx _ (by omega) (by omega)
    intro σ1 H1 h1
    rw [hIv] at h1
    obtain ⟨a, rfl, rfl, a0, a9⟩ := h1
    refine zss_cut Iv (fun nx hnx => ?_) ?_
    · fail "za"
      all_goals exact hI nx hnx _ (by omega) (by omega)
    intro σ1 H1 h1
    rw [hIv] at h1
    obtain ⟨a, rfl, rfl, a0, a9⟩ := h1
    rcases ro with _ | r <;> simp only [ov] at *
    · fail "z0"
      exact hQ a a0 a9 (fun r z => by cases z)
    · have := r0 r rfl
      fail "z0"
      exact hQ _ (by split <;> omega) (by split <;> omega) (fun r' z => by cases z; split <;> omega)
def spWho : Sp := fun vs H Q _ => ∃ (s : Addr) (b : Int) (n : Nat) (a : Int), vs = [.ref s, .int b, .int n, .int a] ∧ Src H s ∧ 2 ≤ b ∧ b ≤ 36 ∧ 3 ≤ n ∧ n ≤ 40 ∧ ∀ v H', Same H H' → 1 ≤ v → v < b ^ n → (a = 0 ∨ b ^ (n - 1) ≤ v) → Q (.int v) H'
theorem who_do {s : Addr} {b : Int} {n : Nat} {a : Int} {H : Hp} {Q : VK} {E : XK} (h : Src H s) (b1 : 2 ≤ b) (b9 : b ≤ 36) (n1 : 3 ≤ n) (n9 : n ≤ 40) (k : ∀ v H', Same H H' → 1 ≤ v → v < b ^ n → (a = 0 ∨ b ^ (n - 1) ≤ v) → Q (.int v) H') : spWho [.ref s, .int b, .int n, .int a] H Q E := ⟨s, b, n, a, rfl, h, b1, b9, n1, n9, k⟩
theorem ok_who {f : Addr} {fd : FuncData} (F : Fun K "_law_whole" "_law_whole" S__law_whole f fd) (cD : Cal P w K mg base 1 "_law_draw" spDraw) (cF : Cal P w K mg base 2 "_law_full" spFull) : FnOk P w K mg base (L2N.CX P w) 3 f fd ["source", "base", "precision", "above"] spWho := by
  have S := nk__law_whole
  refine F.okN sc__law_whole (fun vs H Q E h => ?_) (fun cdv A outer s0 H vs Q E hr h => ?_)
  · obtain ⟨s, b, n, a, rfl, _⟩ := h; rfl
  · obtain ⟨s, b, n, a, rfl, hs, b1, b9, n1, n9, hQ⟩ := h
    have bn : b ^ 1 ≤ b ^ n := ipow_le (by omega) (by omega)
    rw [Int.pow_succ, Int.pow_zero, Int.one_mul] at bn
    have fin : ∀ {m : Nat} {v : Int} {H' : Hp}, Same H H' → 1 ≤ m → m ≤ n → (a = 0 ∨ m = n) → b ^ (m - 1) ≤ v → v < b ^ m → Q (.int v) H' := fun {m v H'} s1 m1 m9 ma v1 v9 => by
      have p1 : (0 : Int) < b ^ (m - 1) := Int.pow_pos (by omega)
      have p2 : b ^ m ≤ b ^ n := ipow_le (by omega) m9
      refine hQ v H' s1 (by omega) (by omega) ?_
      rcases ma with h | rfl
      · exact .inl h
      · exact .inr v1
    show ZSs _ _ _ _ _ _ [some (.ref s), some (.int b), some (.int n), some (.int a), none] H
    fail "z0"
    all_goals try (exfalso; omega)
    all_goals first
      | exact hQ _ _ (.refl _) (by omega) (by omega) (.inl (by omega))
      | exact full_do hs b1 b9 (by omega) (by omega) (fun v H' v1 v9 s1 => fin s1 (by omega) (by omega) (.inr rfl) v1 v9)
      | (rename_i v v0 v9 hd
         obtain ⟨m, hm⟩ := Int.eq_ofNat_of_zero_le (show 0 ≤ 1 + v by omega)
         rw [hm]
         exact full_do hs b1 b9 (by omega) (by omega) (fun v H' v1 v9 s1 => fin s1 (by omega) (by omega) (.inl (by omega)) v1 v9))
theorem bey_law {b x rm mo s : Int} {n : Nat} (b1 : 2 ≤ b) (n1 : 3 ≤ n) (n9 : n ≤ 40) (x1 : -20 ≤ x) (x9 : x ≤ 20) (r0 : 0 ≤ rm) (r9 : rm ≤ 30) (m1 : 1 ≤ mo) (m9 : mo ≤ 1000) (hs : s = 1 ∨ s = -1) :
    Sm b (n + 100) (s * (gC b n + rm * eaI b n + mo)) ∧ ∀ c e, Low b (whI b n (s * (gC b n + rm * eaI b n + mo))) (x + abI b n (s * (gC b n + rm * eaI b n + mo))) c e → ∃ N L, Fit b N L (some (x + rm)) c e ∧ over b n (some (x + rm)) c e = true := by
  have ep := eaI_pos b1 n1
  have pm : (0 : Int) < b ^ (n - 1) := Int.pow_pos (by omega)
  have d1 := Int.mul_ediv_add_emod (mo - 1) (eaI b n)
  have d2 := Int.emod_nonneg (mo - 1) (show eaI b n ≠ 0 by omega)
  have d3 := Int.emod_lt_of_pos (mo - 1) (show 0 < eaI b n by omega)
  have d4 := Int.ediv_nonneg (show 0 ≤ mo - 1 by omega) (show 0 ≤ eaI b n by omega)
  have d5 : (mo - 1) / eaI b n ≤ 300 := by
    have := Int.mul_le_mul_of_nonneg_right (show 4 ≤ eaI b n by omega) d4
    omega
  have ek : gC b n + rm * eaI b n + mo = (b ^ (n - 1) + (mo - 1) % eaI b n) + (rm + 1 + (mo - 1) / eaI b n) * eaI b n := by
    unfold gC
    rw [Int.add_mul, Int.add_mul, Int.one_mul, Int.mul_comm ((mo - 1) / eaI b n)]
    omega
  rw [ek]
  have hw : b ^ (n - 1) + (mo - 1) % eaI b n < b ^ n := by omega
  have a0 : 0 ≤ rm + 1 + (mo - 1) / eaI b n := by omega
  have a9 : rm + 1 + (mo - 1) / eaI b n ≤ 400 := by omega
  obtain ⟨e1, e2⟩ := ab_law b1 n1 (show 0 ≤ b ^ (n - 1) + (mo - 1) % eaI b n by omega) hw a0 (.inr (by omega)) hs
  refine ⟨k_sm b1 n1 (by omega) hw a0 a9 hs, fun c e lw => ?_⟩
  rw [e1, e2] at lw
  have hwl : b ^ (n - 1) ≤ b ^ (n - 1) + (mo - 1) % eaI b n := by omega
  have hal : rm + 1 ≤ rm + 1 + (mo - 1) / eaI b n := by omega
  clear ek d1 d2 d3 d4 d5
  generalize b ^ (n - 1) + (mo - 1) % eaI b n = wh at *
  generalize hab : rm + 1 + (mo - 1) / eaI b n = ab at *
  have na : ((s * wh).natAbs : Int) = wh := by clear e1 e2 lw; rcases hs with rfl | rfl <;> omega
  have s40 : Sm b 40 (s * wh) := (sm_lt (n := n) b1 (by rw [na]; exact hw)).mono (by omega) n9
  exact ⟨40, 600, (bw_fit b1 x1 x9 a0 a9 (fun t z => by cases z; omega) s40 lw).1, over_t b1 (by omega) lw (by rw [na]; exact hwl) (by omega)⟩
/-- no_number's promise, put shortly -/
theorem non_grid {C G p : Addr} {b : Int} {n : Nat} {to : Option Int} {k : Int} {H : Hp} {Q : VK} {E : XK} (g : Gd G H p b n none to) (h : ∀ l H', Same H H' → H' l = some (.lst [.str "grid", .str "borders"]) → Q (.ref l) H') : spNoN C G [.ref p, .int k] H Q E := ⟨p, b, n, none, to, k, rfl, g, fun _ => h, fun x z => by cases z⟩
theorem told_grid {C G p q : Addr} {b b2 c e : Int} {n : Nat} {to : Option Int} {H : Hp} {Q : VK} {E : XK} (g : Gd G H p b n none to) (x : ExF C H q b2 c e) (h : ∀ l H', Same H H' → H' l = some (.lst [.str "grid", .str "borders"]) → Q (.ref l) H') : spTold C G [.ref p, .ref q] H Q E := ⟨p, q, b, n, none, to, b2, c, e, rfl, g, x, fun _ => h, fun z => absurd rfl z, fun x z => by cases z⟩
theorem told_mix {C G p q : Addr} {b b2 c e x : Int} {n : Nat} {to : Option Int} {H : Hp} {Q : VK} {E : XK} (g : Gd G H p b n (some x) to) (xe : ExF C H q b2 c e) (nb : b ≠ b2) (h : ∀ l H', Same H H' → H' l = some (.lst [.str "bases", .int b, .int b2]) → Q (.ref l) H') : spTold C G [.ref p, .ref q] H Q E := ⟨p, q, b, n, some x, to, b2, c, e, rfl, g, xe, fun z => (by cases z), fun _ _ => h, fun _ _ z => absurd z nb⟩
theorem told_num {C G p q : Addr} {b c e x : Int} {n N L : Nat} {to : Option Int} {H : Hp} {Q : VK} {E : XK} (g : Gd G H p b n (some x) to) (xe : ExF C H q b c e) (lf : LowF b c e) (ft : Fit b N L to c e) (ex : e - x ≤ 500) (i : inG b n (some x) to c e = false) (h : ∀ l H', Same H H' → H' l = some (.lst [.str "number", .int b, .int c, .int e]) → Q (.ref l) H') : spTold C G [.ref p, .ref q] H Q E := ⟨p, q, b, n, some x, to, b, c, e, rfl, g, xe, fun z => (by cases z), fun _ z => absurd rfl z, fun y hy _ => by cases hy; exact ⟨lf, ⟨N, L, ft, ex⟩, fun _ => h, fun z => by rw [i] at z; cases z⟩⟩
def spBeyR (G : Addr) : Sp := fun vs H Q _ => ∃ (s p : Addr) (b : Int) (n : Nat) (x rm : Int), vs = [.ref s, .ref p, .int (gC b n + rm * eaI b n)] ∧ Src H s ∧ Gd G H p b n (some x) (some (x + rm)) ∧ n ≤ 40 ∧ -20 ≤ x ∧ x ≤ 20 ∧ 0 ≤ rm ∧ rm ≤ 30 ∧ ∀ H', Same H H' → Q (.bl true) H'
theorem ok_beyr {f C G : Addr} {fd : FuncData} (F : Fun K "_law_beyond_right" "_law_beyond_right" S__law_beyond_right f fd) (cD : Cal P w K mg base 1 "_law_draw" spDraw) (cN : Cal P w K mg base 9 "_law_no_number" (spNoN C G)) (cE : Cal P w K mg base 2 "_law_equal" (spEq K 1)) : FnOk P w K mg base (L2N.CX P w) 10 f fd ["source", "grid", "greatest"] (spBeyR G) := by
  have S := nk__law_beyond_right
  refine F.okN sc__law_beyond_right (fun vs H Q E h => ?_) (fun cdv A outer s0 H vs Q E hr h => ?_)
  · obtain ⟨s, p, b, n, x, rm, rfl, _⟩ := h; rfl
  · obtain ⟨s, p, b, n, x, rm, rfl, hs, g, n9, x1, x9, r0, r9, hQ⟩ := h
    have b1 := g.b1
    have n1 := g.n1
    show ZSs _ _ _ _ _ _ [some (.ref s), some (.ref p), some (.int (gC b n + rm * eaI b n)), none, none] H
    generalize hgr : gC b n + rm * eaI b n = gr
    refine zss_cons ?_
    refine zs_forL pass_def rfl ?_
    fail "za"
    rename_i v v0 v9 l nl
    have hl : upd H l (.lst [.int 1, .int (1 + v)]) l = some (.lst [.int 1, .int (1 + v)]) := upd_same
    have sl : Same H (upd H l (.lst [.int 1, .int (1 + v)])) := by fail "zsm"
    generalize upd H l (.lst [.int 1, .int (1 + v)]) = H1 at *
    refine ⟨l, _, rfl, SqL.of hl, fun i σ H' => ∃ o1 o2, σ = [some (.ref s), some (.ref p), some (.int gr), o1, o2] ∧ Same H1 H', ⟨_, _, rfl, .refl _⟩, ?_, ?_, ?_⟩
    · rintro i σ H' _ ⟨o1, o2, rfl, s2⟩; exact SqL.of (s2 _ _ hl)
    · rintro i y σ H2 hy ⟨o1, o2, rfl, s2⟩
      obtain ⟨mo, rfl, m1, m9⟩ : ∃ mo : Int, y = .int mo ∧ 1 ≤ mo ∧ mo ≤ 1000 := by
        match i, hy with
        | 0, hy => simp at hy; exact ⟨1, hy.symm, by omega, by omega⟩
        | 1, hy => simp at hy; exact ⟨1 + v, hy.symm, by omega, by omega⟩
        | i + 2, hy => simp at hy
      fail "za"
      refine zs_forL pass_def rfl ?_
      fail "za"
      rename_i l3 nl3
      have hl3 : upd H2 l3 (.lst [.int (gr + mo), .int (0 - gr - mo)]) l3 = some (.lst [.int (gr + mo), .int (0 - gr - mo)]) := upd_same
      have sl3 : Same H2 (upd H2 l3 (.lst [.int (gr + mo), .int (0 - gr - mo)])) := by fail "zsm"
      generalize upd H2 l3 (.lst [.int (gr + mo), .int (0 - gr - mo)]) = H3 at *
      refine ⟨l3, _, rfl, SqL.of hl3, fun i σ H' => ∃ o2, σ = [some (.ref s), some (.ref p), some (.int gr), some (.int mo), o2] ∧ Same H3 H', ⟨_, rfl, .refl _⟩, ?_, ?_, ?_⟩
      · rintro i σ H' _ ⟨o2, rfl, s4⟩; exact SqL.of (s4 _ _ hl3)
      · rintro i y σ H4 hy ⟨o2, rfl, s4⟩
        obtain ⟨k, rfl, q⟩ : ∃ k : Int, y = .int k ∧ (Sm b (n + 100) k ∧ ∀ c e, Low b (whI b n k) (x + abI b n k) c e → ∃ N L, Fit b N L (some (x + rm)) c e ∧ over b n (some (x + rm)) c e = true) := by
          match i, hy with
          | 0, hy => exact ⟨gr + mo, (Option.some.inj hy).symm, by have := bey_law (x := x) (s := 1) b1 n1 n9 x1 x9 r0 r9 m1 m9 (.inl rfl); rw [Int.one_mul, hgr] at this; exact this⟩
          | 1, hy => exact ⟨0 - gr - mo, (Option.some.inj hy).symm, by have := bey_law (x := x) (s := -1) b1 n1 n9 x1 x9 r0 r9 m1 m9 (.inr rfl); rw [Int.neg_mul, Int.one_mul, hgr, show -(gr + mo) = 0 - gr - mo by omega] at this; exact this⟩
          | i + 2, hy => simp at hy
        fail "za"
        refine ⟨p, b, n, some x, some (x + rm), k, rfl, g.same (by fail "zsm"), fun z => (by cases z), fun y hy => ?_⟩
        cases hy
        refine ⟨q.1, q.2, fun l H5 s5 hl5 => ?_⟩
        fail "za"
        refine equal_do (.lstS (SqL.of (by fail "zh")) (SqL.of (by fail "zh")) (Nat.le_of_ble_eq_true rfl) (by fail "zsc")) ?_
        fail "za"
        fail "zsm"
      · rintro σ H' ⟨o2, rfl, s4⟩
        exact ⟨_, _, rfl, by fail "zsm"⟩
    · rintro σ H' ⟨o1, o2, rfl, s2⟩
      fail "za"
      exact hQ _ (by fail "zsm")

theorem nd_mul1 {b v : Int} (b1 : 2 ≤ b) : ¬ b ∣ v * b + 1 := fun z => by
  have d1 := Int.dvd_sub z (Int.dvd_mul_left v b)
  rw [show v * b + 1 - v * b = 1 by omega] at d1
  have := Int.le_of_dvd (by omega) d1
  omega
theorem inG_big {b c e x : Int} {n : Nat} {to : Option Int} (b1 : 2 ≤ b) (h : b ^ n ≤ (c.natAbs : Int)) : inG b n (some x) to c e = false := by
  have pn : (0 : Int) < b ^ n := Int.pow_pos (by omega)
  unfold inG
  rw [decide_eq_false (show ¬ c = 0 by omega), decide_eq_false (show ¬ ((c.natAbs : Int) < b ^ n) by omega)]; rfl
theorem inG_low {b c e x : Int} {n : Nat} {to : Option Int} (c0 : c ≠ 0) (h : e < x) : inG b n (some x) to c e = false := by
  unfold inG
  rw [decide_eq_false c0]
  simp only [Bool.false_or]
  rw [decide_eq_false (show ¬ x ≤ e by omega), Bool.and_false]; rfl
theorem inG_over {b c e x : Int} {n : Nat} {to : Option Int} (c0 : c ≠ 0) (h : over b n to c e = true) : inG b n (some x) to c e = false := by
  unfold inG
  rw [decide_eq_false c0, h]; simp
/-- a number that is none of the grid -/
def WrN (H : Hp) (b : Int) (n : Nat) (x : Int) (to : Option Int) (v : V) : Prop := ∃ (q : Addr) (c e : Int), v = .ref q ∧ H q = some (.tup [.int c, .int e]) ∧ LowF b c e ∧ Fit b 60 600 to c e ∧ e - x ≤ 500 ∧ inG b n (some x) to c e = false
theorem WrN.same {H H' : Hp} {b : Int} {n : Nat} {x : Int} {to : Option Int} {v : V} (h : WrN H b n x to v) (s : Same H H') : WrN H' b n x to v := by
  obtain ⟨q, c, e, rfl, hq, h⟩ := h
  exact ⟨q, c, e, rfl, s _ _ hq, h⟩
theorem WrN.up {H : Hp} {D : Addr} {o : HO} {acc : List V} {b : Int} {n : Nat} {x : Int} {to : Option Int} {v : V} (h : WrN H b n x to v) (hD : H D = some (.lst acc)) : WrN (upd H D o) b n x to v := by
  obtain ⟨q, c, e, rfl, hq, h⟩ := h
  exact ⟨q, c, e, rfl, by rw [upd_ne (fun z => by rw [z, hD] at hq; cases hq)]; exact hq, h⟩
def spRef (G : Addr) : Sp := fun vs H Q _ => ∃ (s p : Addr) (b : Int) (n : Nat) (x : Int) (ro : Option Int), vs = [.ref s, .ref p, .int b, .int n, .int x, ov ro] ∧ Src H s ∧ Gd G H p b n (some x) (ro.map (x + ·)) ∧ n ≤ 40 ∧ -20 ≤ x ∧ x ≤ 20 ∧ (∀ r, ro = some r → 0 ≤ r ∧ r ≤ 30) ∧ ∀ H', Same H H' → Q (.bl true) H'
theorem ok_ref {f C G CB CG : Addr} {fd : FuncData} (F : Fun K "_law_refused_right" "_law_refused_right" S__law_refused_right f fd) (cD : Cal P w K mg base 1 "_law_draw" spDraw) (cO : Cal P w K mg base 2 "_law_other_base" spOB) (cX : CalC P w K mg base 3 "Exact" C (spEx C CB)) (GC : GrCal P w K mg base G CB CG) (cM : Cal P w K mg base 5 "_law_make" (spMakeL C)) (cF : Cal P w K mg base 2 "_law_full" spFull) (cP : Cal P w K mg base 1 "_law_power" spPowL) (cT : Cal P w K mg base 11 "_law_told_rank" (spTold C G)) (cN : Cal P w K mg base 9 "_law_no_number" (spNoN C G)) (cE : Cal P w K mg base 2 "_law_equal" (spEq K 1)) : FnOk P w K mg base (L2N.CX P w) 12 f fd ["source", "grid", "base", "precision", "bottom", "room"] (spRef G) := by
  have S := nk__law_refused_right
  obtain ⟨c0, cb, ct, cbt⟩ := GC
  refine F.okN sc__law_refused_right (fun vs H Q E h => ?_) (fun cdv A outer s0 H vs Q E hr h => ?_)
  · obtain ⟨s, p, b, n, x, ro, rfl, _⟩ := h; rfl
  · obtain ⟨s, p, b, n, x, ro, rfl, hs, g, n9, x1, x9, hro, hQ⟩ := h
    have b1 := g.b1
    have b9 := g.b9
    have n1 := g.n1
    have bb : Bd 6 b := by unfold Bd; omega
    show ZSs _ _ _ _ _ _ [some (.ref s), some (.ref p), some (.int b), some (.int n), some (.int x), some (ov ro), none, none, none, none, none, none, none, none, none, none, none, none] H
    fail "z0"
    refine ob_do hs b1 b9 (fun o o1 o9 on => ?_)
    fail "za"
    rename_i v v0 v9 u1 d1 nu1 nd1 nn1
    refine ex_do nu1 nd1 nn1 o1 o9 (N := 6) (by unfold Bd; omega) (by omega) (fun H1 c1 e1 s1 x1' => ⟨rfl, ?_⟩)
    fail "za"
    rename_i t1 nt1
    refine make_do (N := 1) (by fail "zh") b1 b9 (by unfold Bd; decide) (by omega) (fun u2 H2 c2 e2 s2 nu2 x2 => ?_)
    fail "za"
    rename_i ga gd nga ngd gn
    refine ⟨_, _, _, rfl, gini_of (bo := none) (to := none) nga ngd b1 b9 n1 (by omega) trivial fun H3 s3 g3 => ⟨rfl, ?_⟩⟩
    fail "za"
    rename_i w1 w10 w19 gb gd2 ngb ngd2 gn2
    refine ⟨_, _, _, _, rfl, gini_of (bo := none) (to := some _) ngb ngd2 b1 b9 n1 (by omega) trivial fun H4 s4 g4 => ⟨rfl, ?_⟩⟩
    have y1 : ExF C H4 u1 o c1 e1 := ExF.same x1'.1 (by fail "zsm")
    have y2 : ExF C H4 u2 b c2 e2 := ExF.same x2.1 (by fail "zsm")
    have g3' : Gd G H4 ga b n none none := g3.same s4
    have T4 : Same H H4 := by fail "zsm"
    have hs4 := hs.same T4
    have gp := g.same T4
    fail "za"
    rename_i rk rk0 rk9
    clear s1 s2 s3 s4 x1' x2 nu1 nd1 nn1 nt1 nu2 nga ngd gn ngb ngd2 gn2 g3
    refine zs_cut (fun σ' H' => ∃ o1 o2, σ' = [some (.ref s), some (.ref p), some (.int b), some (.int n), some (.int x), some (ov ro), some (.int o), some (.ref u1), some (.ref u2), some (.ref ga), some (.ref gb), some (.int rk), o1, o2, none, none, none, none] ∧ Same H4 H') (fun nx hnx => ?_) ?_
    · refine zs_forL pass_def rfl ?_
      fail "za"
      rename_i l nl
      have hl : upd H4 l (.lst [.ref ga, .ref gb]) l = some (.lst [.ref ga, .ref gb]) := upd_same
      have sl : Same H4 (upd H4 l (.lst [.ref ga, .ref gb])) := by fail "zsm"
      generalize upd H4 l (.lst [.ref ga, .ref gb]) = H5 at *
      refine ⟨l, _, rfl, SqL.of hl, fun i σ H' => ∃ o1 o2, σ = [some (.ref s), some (.ref p), some (.int b), some (.int n), some (.int x), some (ov ro), some (.int o), some (.ref u1), some (.ref u2), some (.ref ga), some (.ref gb), some (.int rk), o1, o2, none, none, none, none] ∧ Same H5 H', ⟨_, _, rfl, .refl _⟩, ?_, ?_, ?_⟩
      · rintro i σ H' _ ⟨o1, o2, rfl, s2⟩; exact SqL.of (s2 _ _ hl)
      · rintro i y σ H6 hy ⟨o1, o2, rfl, s6⟩
        obtain ⟨bad, to, rfl, gbad⟩ : ∃ bad to, y = .ref bad ∧ Gd G H6 bad b n none to := by
          match i, hy with
          | 0, hy => exact ⟨ga, none, (Option.some.inj hy).symm, (g3'.same sl).same s6⟩
          | 1, hy => exact ⟨gb, _, (Option.some.inj hy).symm, (g4.same sl).same s6⟩
          | i + 2, hy => simp at hy
        have z1 : ExF C H6 u1 o c1 e1 := (y1.same sl).same s6
        have z2 : ExF C H6 u2 b c2 e2 := (y2.same sl).same s6
        fail "za"
        refine zs_cut (fun σ' H' => ∃ o2, σ' = [some (.ref s), some (.ref p), some (.int b), some (.int n), some (.int x), some (ov ro), some (.int o), some (.ref u1), some (.ref u2), some (.ref ga), some (.ref gb), some (.int rk), some (.ref bad), o2, none, none, none, none] ∧ Same H6 H') (fun nx hnx => ?_) ?_
        · refine zs_forL pass_def rfl ?_
          fail "za"
          rename_i l7 nl7
          have hl7 : upd H6 l7 (.lst [.ref u2, .ref u1]) l7 = some (.lst [.ref u2, .ref u1]) := upd_same
          have sl7 : Same H6 (upd H6 l7 (.lst [.ref u2, .ref u1])) := by fail "zsm"
          generalize upd H6 l7 (.lst [.ref u2, .ref u1]) = H7 at *
          refine ⟨l7, _, rfl, SqL.of hl7, fun i σ H' => ∃ o2, σ = [some (.ref s), some (.ref p), some (.int b), some (.int n), some (.int x), some (ov ro), some (.int o), some (.ref u1), some (.ref u2), some (.ref ga), some (.ref gb), some (.int rk), some (.ref bad), o2, none, none, none, none] ∧ Same H7 H', ⟨_, rfl, .refl _⟩, ?_, ?_, ?_⟩
          · rintro i σ H' _ ⟨o2, rfl, s2⟩; exact SqL.of (s2 _ _ hl7)
          · rintro i y σ H8 hy ⟨o2, rfl, s8⟩
            obtain ⟨u, bu, cu, eu, rfl, xu⟩ : ∃ u bu cu eu, y = .ref u ∧ ExF C H8 u bu cu eu := by
              match i, hy with
              | 0, hy => exact ⟨u2, _, _, _, (Option.some.inj hy).symm, (z2.same sl7).same s8⟩
              | 1, hy => exact ⟨u1, _, _, _, (Option.some.inj hy).symm, (z1.same sl7).same s8⟩
              | i + 2, hy => simp at hy
            fail "za"
            refine told_grid ((gbad.same sl7).same s8) xu (fun l9 H9 s9 hl9 => ?_)
            fail "za"
            refine equal_do (.lstS (SqL.of (by fail "zh")) (SqL.of (by fail "zh")) (Nat.le_of_ble_eq_true rfl) (by fail "zsc")) ?_
            fail "za"
            fail "zsm"
          · rintro σ H' ⟨o2, rfl, s8⟩
            exact hnx _ _ ⟨_, rfl, by fail "zsm"⟩
        rintro _ H8 ⟨o2, rfl, s8⟩
        fail "z0"
        refine non_grid (gbad.same s8) (fun l9 H9 s9 hl9 => ?_)
        fail "za"
        refine equal_do (.lstS (SqL.of (by fail "zh")) (SqL.of (by fail "zh")) (Nat.le_of_ble_eq_true rfl) (by fail "zsc")) ?_
        fail "za"
        exact ⟨_, _, rfl, by fail "zsm"⟩
      · rintro σ H' ⟨o1, o2, rfl, s6⟩
        exact hnx _ _ ⟨_, _, rfl, by fail "zsm"⟩
    rintro _ H5 ⟨o1, o2, rfl, s5⟩
    have g5 := gp.same s5
    have y5 := y1.same s5
    have hs5 := hs4.same s5
    obtain ⟨Sg, hSg⟩ : ∃ Sg : Option V → Option V → Option V → Option V → L2.St, Sg = fun v1 v2 v3 v4 => [some (.ref s), some (.ref p), some (.int b), some (.int n), some (.int x), some (ov ro), some (.int o), some (.ref u1), some (.ref u2), some (.ref ga), some (.ref gb), some (.int rk), o1, o2, v1, v2, v3, v4] := ⟨_, rfl⟩
    have tt : ∀ t, ro.map (x + ·) = some t → -20 ≤ t ∧ t ≤ 50 := fun t z => by
      rcases ro with _ | r
      · cases z
      · have e : x + r = t := Option.some.inj z
        have := hro r rfl
        omega
    have pm : (0 : Int) < b ^ (n - 1) := Int.pow_pos (by omega)
    have pn : (0 : Int) < b ^ n := Int.pow_pos (by omega)
    refine zss_cut (fun σ' H' => σ' = Sg none none none none ∧ Same H5 H') (fun nx hnx => ?_) ?_
    · fail "za"
      refine told_mix g5 y5 on (fun l6 H6 s6 hl6 => ?_)
      fail "za"
      refine equal_do (.lstS (SqL.of (by fail "zh")) (SqL.of (by fail "zh")) (Nat.le_of_ble_eq_true rfl) (by fail "zsc")) ?_
      fail "za"
      exact hnx _ _ ⟨by rw [hSg], by fail "zsm"⟩
    rintro _ H6 ⟨rfl, s6⟩
    have hs6 := hs5.same s6
    rw [hSg]
    refine zss_cut (fun σ' H' => ∃ q1, σ' = Sg (some (.ref q1)) none none none ∧ Same H6 H' ∧ WrN H' b n x (ro.map (x + ·)) (.ref q1)) (fun nx hnx => ?_) ?_
    · fail "za"
      refine full_do hs6 b1 b9 n1 (by omega) (fun wv H7 v1 v9 s7 => ?_)
      have wS : Sm b n wv := Sm.of_lt (by omega) (by omega) v9
      have wB := wS.bd (by omega) b9
      have e1' : b ^ n = b ^ (n - 1) * b := by conv => lhs; rw [show n = (n - 1) + 1 by omega]
                                               exact Int.pow_succ ..
      have lb : b ^ n ≤ wv * b + 1 := by
        have := Int.mul_le_mul_of_nonneg_right v1 (show 0 ≤ b by omega)
        omega
      have wS2 : Sm b 60 (wv * b + 1) := by
        have := (wS.mulp (show 1 ≤ b by omega) 1).near b1 (d := 1) (by decide)
        rw [show b ^ 1 = b by rw [Int.pow_succ, Int.pow_zero, Int.one_mul]] at this
        exact this.mono (by omega) (by omega)
      have hdvd : ¬ b ∣ wv * b + 1 := nd_mul1 b1
      fail "za"
      all_goals try exact wB.cmul bb (by omega)
      rename_i d5 d50 d59 q1 nq1
      have ft : Fit b 60 600 (ro.map (x + ·)) (wv * b + 1) (x + d5) := ⟨wS2, fun t z => by have := tt t z; omega, by omega⟩
      exact hnx _ _ ⟨q1, by rw [hSg], by fail "zsm", q1, _, _, rfl, upd_same, .inr ⟨by omega, hdvd⟩, ft, by omega, inG_big b1 (by omega)⟩
    rintro _ H7 ⟨q1, rfl, s7, k1⟩
    rw [hSg]
    have hs7 := hs6.same s7
    refine zss_cut (fun σ' H' => ∃ q2, σ' = Sg (some (.ref q1)) (some (.ref q2)) none none ∧ Same H7 H' ∧ WrN H' b n x (ro.map (x + ·)) (.ref q2)) (fun nx hnx => ?_) ?_
    · fail "za"
      rename_i d3 d30 d39 q2 nq2
      have ft : Fit b 60 600 (ro.map (x + ·)) (0 - 1) (x - 1 - d3) := ⟨(show Sm b 60 (0 - 1) by unfold Sm; exact Nat.one_lt_pow (by omega) (by omega)), fun t z => by have := tt t z; omega, by omega⟩
      exact hnx _ _ ⟨q2, by rw [hSg], by fail "zsm", q2, _, _, rfl, upd_same, .inr ⟨by omega, fun z => by have := Int.le_of_dvd (by omega) ((Int.dvd_neg).mpr z); omega⟩, ft, by omega, inG_low (by omega) (by omega)⟩
    rintro _ H8 ⟨q2, rfl, s8, k2⟩
    rw [hSg]
    refine zss_cut (fun σ' H' => ∃ l3, σ' = Sg (some (.ref q1)) (some (.ref q2)) (some (.ref l3)) none ∧ Same H8 H' ∧ NoA H8 l3 ∧ H' l3 = some (.lst [.ref q1, .ref q2])) (fun nx hnx => ?_) ?_
    · fail "za"
      rename_i l3 nl3
      exact hnx _ _ ⟨l3, by rw [hSg], by fail "zsm", nl3, upd_same⟩
    rintro _ H9 ⟨l3, rfl, s9, nl3, hl3⟩
    rw [hSg]
    have T8 : Same H H8 := by
      have := T4.trans s5
      exact ((this.trans s6).trans s7).trans s8
    refine zss_cut (fun σ' H' => σ' = Sg (some (.ref q1)) (some (.ref q2)) (some (.ref l3)) none ∧ Same H8 H' ∧ ∃ xs, H' l3 = some (.lst xs) ∧ xs.length ≤ 3 ∧ ∀ v ∈ xs, WrN H' b n x (ro.map (x + ·)) v) (fun nx hnx => ?_) ?_
    · have base2 : ∀ v ∈ [V.ref q1, .ref q2], WrN H9 b n x (ro.map (x + ·)) v := fun v hv => by
        simp only [List.mem_cons, List.not_mem_nil, or_false] at hv
        rcases hv with rfl | rfl
        · exact (k1.same s8).same s9
        · exact k2.same s9
      rcases ro with _ | r
      · simp only [ov] at *
        fail "za"
        exact hnx _ _ ⟨by rw [hSg], s9, _, hl3, Nat.le_of_ble_eq_true rfl, base2⟩
      · have hr0 := hro r rfl
        simp only [ov] at *
        fail "za"
        refine powl_do (n := n) (t := 6) bb (by omega) ?_
        fail "za"
        · simp only [List.length_cons, List.length_nil]; rw [sizeLine_eq]; omega
        rename_i q3 nq3
        have lw := gC_low (b := b) (t := x + r + 1) b1 (show 1 ≤ n by omega)
        have gp := gC_pos b1 (show 1 ≤ n by omega)
        have ft : Fit b 60 600 (some (x + r)) (gC b n) (x + r + 1) := ⟨(gC_sm b1 (by omega)).mono (by omega) (by omega), fun t z => by cases z; omega, by omega⟩
        have le1 : b ^ (n - 1) ≤ ((gC b n).natAbs : Int) := by
          have e1' : b ^ n = b ^ (n - 1) * b := by conv => lhs; rw [show n = (n - 1) + 1 by omega]
                                                   exact Int.pow_succ ..
          have := Int.mul_le_mul_of_nonneg_left b1 (show 0 ≤ b ^ (n - 1) by omega)
          unfold gC
          omega
        refine hnx _ _ ⟨by rw [hSg], ?_, _, upd_same, ?_, fun v hv => ?_⟩
        · exact Same.put (by fail "zsm") nl3.e
        · exact Nat.le_refl 3
        · have hl9 : upd H9 q3 (.tup [.int (b ^ n - 1), .int (x + r + 1)]) l3 = some (.lst [.ref q1, .ref q2]) := by fail "zh"
          rcases List.mem_append.mp hv with hv | hv
          · exact WrN.up ((base2 v hv).same (by fail "zsm")) hl9
          · obtain rfl := List.mem_singleton.mp hv
            exact WrN.up ⟨q3, _, _, rfl, upd_same, lw, ft, by omega, inG_over (by omega) (over_t b1 (by omega) lw.low le1 (show x + r < x + r + 1 by omega))⟩ hl9
    rintro _ HA ⟨rfl, sA, xs, hlA, zA, hxs⟩
    rw [hSg]
    have gA := g.same (T8.trans sA)
    refine zss_cons ?_
    refine zs_forL pass_def rfl ?_
    fail "za"
    refine ⟨l3, xs, rfl, SqL.of hlA, fun i σ H' => ∃ v4, σ = Sg (some (.ref q1)) (some (.ref q2)) (some (.ref l3)) v4 ∧ Same HA H', ⟨_, by rw [hSg], .refl _⟩, ?_, ?_, ?_⟩
    · rintro i σ H' _ ⟨v4, rfl, sB⟩; exact SqL.of (sB _ _ hlA)
    · rintro i y σ HB hy ⟨v4, rfl, sB⟩
      obtain ⟨q, c, e, rfl, hq, lf, ft, ex, ig⟩ := (hxs y (List.mem_of_getElem? hy)).same sB
      rw [hSg]
      have cB := ft.sm.bd (by omega) b9
      fail "za"
      refine make_do hq b1 b9 cB (by omega) (fun u HC c' e' sC nu xu => ?_)
      obtain ⟨rfl, rfl⟩ := xu.2.one b1 lf.low
      have hqC := sC _ _ hq
      fail "za"
      refine told_num ((gA.same sB).same sC) xu.1 lf ft ex ig (fun l HD sD hlD => ?_)
      have hqD := sD _ _ hqC
      fail "za"
      refine equal_do (.lstS (SqL.of (by fail "zh")) (SqL.of (by fail "zh")) (Nat.le_of_ble_eq_true rfl) (by fail "zsc")) ?_
      fail "za"
      fail "zsm"
    · rintro σ HB ⟨v4, rfl, sB⟩
      rw [hSg]
      fail "za"
      exact hQ _ ((T8.trans sA).trans sB)

theorem ok_law {f C G CB CG : Addr} {fd : FuncData} (F : Fun K "law" "law" S_law f fd) (B : Blt mg) (cS : Cal P w K mg base 1 "_law_source" (spSrc K)) (cD : Cal P w K mg base 1 "_law_draw" spDraw) (cBa : Cal P w K mg base 2 "_law_base" spBase) (cPr : Cal P w K mg base 2 "_law_precision" spPrec) (cSm : Cal P w K mg base 2 "_law_small" spSmall) (GC : GrCal P w K mg base G CB CG) (cP : Cal P w K mg base 1 "_law_power" spPowL) (cA : Cal P w K mg base 2 "_law_above" spAbv) (cW : Cal P w K mg base 3 "_law_whole" spWho) (cR : Cal P w K mg base 13 "_law_ranks_right" (spRR G)) (cBo : Cal P w K mg base 12 "_law_both_ways" (spBoth G)) (cBy : Cal P w K mg base 10 "_law_beyond_right" (spBeyR G)) (cRf : Cal P w K mg base 12 "_law_refused_right" (spRef G)) : FnOk P w K mg base (L2N.CX P w) 14 f fd ["script"] (spLaw K) := by
  have S := nk_law
  obtain ⟨c0, cb, ct, cbt⟩ := GC
  refine F.okN sc_law (fun vs H Q E h => ?_) (fun cdv A outer s H vs Q E hr h => ?_)
  · obtain ⟨a, ns, rfl, _⟩ := h; rfl
  · obtain ⟨a, ns, rfl, hs, hl, hQ⟩ := h
    show ZSs _ _ _ _ _ _ [some (.ref a), none, none, none, none, none, none, none, none, none, none, none] H
    obtain ⟨Sg, hSg⟩ : ∃ Sg : Addr → Int → Nat → Int → V → V → Option V → Option V → Option V → Option V → Option V → L2.St, Sg = fun src b n x ro g v1 v2 v3 v4 v5 => [some (.ref a), some (.ref src), some (.int b), some (.int n), some (.int x), some ro, some g, v1, v2, v3, v4, v5] := ⟨_, rfl⟩
    refine zss_cut (fun σ1 H1 => ∃ (src : Addr), σ1 = [some (.ref a), some (.ref src), none, none, none, none, none, none, none, none, none, none] ∧ Src H1 src) (fun nx hnx => ?_) ?_
    · fail "za"
      refine src_do hs (by omega) (fun src H1 nsrc s1 hsrc => ?_)
      fail "za"
      exact hnx _ _ ⟨_, rfl, hsrc⟩
    rintro _ H1 ⟨src, rfl, hs1⟩
    refine zss_cut (fun σ1 H2 => ∃ (b : Int), σ1 = [some (.ref a), some (.ref src), some (.int b), none, none, none, none, none, none, none, none, none] ∧ Src H2 src ∧ 2 ≤ b ∧ b ≤ 36) (fun nx hnx => ?_) ?_
    · fail "za"
      exact hnx _ _ ⟨_, rfl, hs1.same (by assumption), by assumption, by assumption⟩
    rintro _ H2 ⟨b, rfl, hs2, b1, b9⟩
    refine zss_cut (fun σ1 H3 => ∃ (n : Nat), σ1 = [some (.ref a), some (.ref src), some (.int b), some (.int n), none, none, none, none, none, none, none, none] ∧ Src H3 src ∧ 3 ≤ n ∧ n ≤ 40) (fun nx hnx => ?_) ?_
    · fail "za"
      refine prec_do hs2 (by omega) (by omega) (fun n n1 n9 => ?_)
      fail "za"
      exact hnx _ _ ⟨_, rfl, hs2, n1, by omega⟩
    rintro _ H3 ⟨n, rfl, hs3, n1, n9⟩
    refine zss_cut (fun σ1 H4 => ∃ (x : Int), σ1 = [some (.ref a), some (.ref src), some (.int b), some (.int n), some (.int x), none, none, none, none, none, none, none] ∧ Src H4 src ∧ -20 ≤ x ∧ x ≤ 20) (fun nx hnx => ?_) ?_
    · fail "za"
      refine small_do hs3 (fun v v1 v9 => ?_)
      fail "za"
      exact hnx _ _ ⟨_, rfl, hs3, v1, v9⟩
    rintro _ H4 ⟨x, rfl, hs4, x1, x9⟩
    refine zss_cut (fun σ1 H5 => σ1 = [some (.ref a), some (.ref src), some (.int b), some (.int n), some (.int x), some .non, none, none, none, none, none, none] ∧ H4 = H5) (fun nx hnx => ?_) ?_
    · fail "za"
      exact hnx _ _ ⟨rfl, rfl⟩
    rintro _ _ ⟨rfl, rfl⟩
    refine zss_cut (fun σ1 H5 => ∃ g, σ1 = Sg src b n x .non (.ref g) none none none none none ∧ Src H5 src ∧ Gd G H5 g b n (some x) none) (fun nx hnx => ?_) ?_
    · fail "za"
      rename_i ga gd nga ngd gn
      refine ⟨_, _, _, _, rfl, gini_of (bo := some _) (to := none) nga ngd b1 b9 n1 (by omega) trivial fun H5 s5 g5 => ⟨rfl, _, _, by fail "sat", by decide, hnx _ _ ⟨ga, by rw [hSg], hs4.same s5, g5⟩⟩⟩
    rintro _ H5 ⟨g0, rfl, hs5, gd0⟩
    rw [hSg]
    refine zss_cut (fun σ1 H6 => ∃ g ro, σ1 = Sg src b n x (ov ro) (.ref g) none none none none none ∧ Src H6 src ∧ Gd G H6 g b n (some x) (ro.map (x + ·)) ∧ ∀ r, ro = some r → 0 ≤ r ∧ r ≤ 30) (fun nx hnx => ?_) ?_
    · fail "za"
      · rename_i d d0 d9 hd rv rv0 rv9 ga gd nga ngd gn
        refine ⟨_, _, _, _, _, rfl, gini_of (bo := some _) (to := some _) nga ngd b1 b9 n1 (by omega) (show _ ≤ _ by omega) fun H6 s6 g6 => ⟨rfl, _, _, by fail "sat", by decide, hnx _ _ ⟨ga, some rv, by rw [hSg]; rfl, hs5.same s6, g6, fun r z => by cases z; omega⟩⟩⟩
      · exact hnx _ _ ⟨g0, none, by rw [hSg]; rfl, hs5, gd0, fun r z => by cases z⟩
    rintro _ H6 ⟨g, ro, rfl, hs6, gd, hro⟩
    have tt : ∀ t, ro.map (x + ·) = some t → ∃ r, ro = some r ∧ t = x + r ∧ 0 ≤ r ∧ r ≤ 30 := fun t z => by
      rcases ro with _ | r
      · cases z
      · have e : x + r = t := Option.some.inj z
        exact ⟨r, rfl, e.symm, hro r rfl⟩
    have bb : Bd 6 b := by unfold Bd; omega
    have gp := gC_pos b1 (show 1 ≤ n by omega)
    have pn : (0 : Int) < b ^ n := Int.pow_pos (by omega)
    have ep := eaI_pos b1 n1
    rw [hSg]
    refine zss_cut (fun σ1 H7 => σ1 = Sg src b n x (ov ro) (.ref g) (some (.int (eaI b n))) none none none none ∧ H6 = H7) (fun nx hnx => ?_) ?_
    · fail "za"
      rw [show (n : Int) - 1 = ((n - 1 : Nat) : Int) by omega]
      refine powl_do (n := n - 1) (t := 6) bb (by omega) ?_
      fail "za"
      exact hnx _ _ ⟨by rw [hSg]; rfl, rfl⟩
    rintro _ _ ⟨rfl, rfl⟩
    rw [hSg]
    refine zss_cut (fun σ1 H7 => σ1 = Sg src b n x (ov ro) (.ref g) (some (.int (eaI b n))) (some (.int (gC b n))) none none none ∧ H6 = H7) (fun nx hnx => ?_) ?_
    · fail "za"
      refine powl_do (n := n) (t := 6) bb (by omega) ?_
      fail "za"
      exact hnx _ _ ⟨by rw [hSg]; rfl, rfl⟩
    rintro _ _ ⟨rfl, rfl⟩
    rw [hSg]
    refine zss_cut (fun σ1 H7 => ∃ v3 v4 v5, σ1 = Sg src b n x (ov ro) (.ref g) (some (.int (eaI b n))) (some (.int (gC b n))) v3 v4 v5 ∧ Same H6 H7) (fun nx hnx => ?_) ?_
    · refine zs_forR pass_def rfl B.range ?_
      fail "za"
      refine ⟨by omega, by omega, fun i σ H7 => ∃ v3 v4 v5, σ = Sg src b n x (ov ro) (.ref g) (some (.int (eaI b n))) (some (.int (gC b n))) v3 v4 v5 ∧ Same H6 H7, ⟨_, _, _, by rw [hSg], .refl _⟩, ?_, ?_⟩
      · rintro i σ H7 hi ⟨v3, v4, v5, rfl, s7⟩
        rw [hSg]
        fail "za"
        refine abv_do (hs6.same s7) (fun r z => (hro r z).1) (fun ab a0 a9 ar => ?_)
        fail "za"
        refine who_do (hs6.same s7) b1 b9 n1 n9 (fun wh H8 s8 w1 w9 hw => ?_)
        fail "za"
        refine rr_do ((gd.same s7).same s8) n9 x1 x9 w1 w9 a0 (by omega) hw (fun t z => by obtain ⟨r, e1, e2, r0, r9⟩ := tt t z; have := ar r e1; omega) (fun H9 s9 => ?_)
        fail "za"
        exact ⟨_, _, _, rfl, by fail "zsm"⟩
      · rintro σ H7 ⟨v3, v4, v5, rfl, s7⟩
        exact hnx _ _ ⟨_, _, _, rfl, s7⟩
    rintro _ H7 ⟨v3, v4, v5, rfl, s7⟩
    rw [hSg]
    have ht0 : ∀ t, ro.map (x + ·) = some t → -20 ≤ t ∧ t ≤ 50 := fun t z => by obtain ⟨r, e1, e2, r0, r9⟩ := tt t z; omega
    have one : (1 : Int) < b ^ n := by omega
    refine zss_cut (fun σ1 H8 => σ1 = Sg src b n x (ov ro) (.ref g) (some (.int (eaI b n))) (some (.int (gC b n))) v3 v4 v5 ∧ Same H6 H8) (fun nx hnx => ?_) ?_
    · fail "za"
      refine rr_do (gd.same s7) n9 x1 x9 (by omega) one (by omega) (by omega) (.inl rfl) (fun t z => by obtain ⟨r, e1, e2, r0, r9⟩ := tt t z; omega) (fun H8 s8 => ?_)
      fail "za"
      refine both_do ((gd.same s7).same (by fail "zsm")) upd_same (bw_zero b1 n1 n9 x1 x9 ht0) (fun H9 s9 => ?_)
      fail "za"
      exact hnx _ _ ⟨by rw [hSg], by fail "zsm"⟩
    rintro _ H8 ⟨rfl, s8⟩
    rw [hSg]
    refine zss_cut (fun σ1 H8 => σ1 = Sg src b n x (ov ro) (.ref g) (some (.int (eaI b n))) (some (.int (gC b n))) v3 v4 v5 ∧ Same H6 H8) (fun nx hnx => ?_) ?_
    · have g8 := gd.same s8
      have h8 := hs6.same s8
      rcases ro with _ | r
      · simp only [ov] at *
        fail "za"
        exact hnx _ _ ⟨by rw [hSg], s8⟩
      · obtain ⟨r0, r9⟩ := hro r rfl
        simp only [ov] at *
        fail "za"
        refine rr_do g8 n9 x1 x9 (by omega) gp.2 r0 (by omega) (.inr ?_) (fun t z => by obtain ⟨r', e1, e2, _⟩ := tt t z; cases e1; omega) (fun H9 s9 => ?_)
        · unfold gC; omega
        fail "za"
        · refine ⟨src, g, b, n, x, r, rfl, h8.same s9, g8.same s9, n9, x1, x9, r0, r9, fun H10 s10 => ?_⟩
          fail "za"
          exact hnx _ _ ⟨by rw [hSg], by fail "zsm"⟩
    rintro _ H9 ⟨rfl, s9⟩
    rw [hSg]
    fail "z0"
    refine rr_do (gd.same s9) n9 x1 x9 (by omega) gp.2 (by omega) (by omega) (.inl rfl) (fun t z => by obtain ⟨r, e1, e2, r0, r9⟩ := tt t z; omega) (fun H10 s10 => ?_)
    fail "za"
    exact ⟨src, g, b, n, x, ro, rfl, (hs6.same s9).same s10, (gd.same s9).same s10, n9, x1, x9, hro, fun H11 s11 => hQ _⟩

theorem all_mk {w : World} {K : PySem.W.Frag} {h : Heap} {mg : Str → Option Value} {fa : Addr} (X : K.In h) (G : h.Ns mainGlobals mg) (hfa : mg "law" = some (.ref fa))
    {f_Exact f_Grid p_Exact_sign p_Exact_digits p_Exact_place p_Grid_greatest f_Exact___init__ T_Exact___init__ f_Exact___abs__ f_Exact___gt__ f_Exact_sign f_Exact_digits f_Exact_place f_Grid___init__ KD_Grid___init__ f_Grid___contains__ f_Grid_unit f_Grid_greatest f_power f_squares_up_to f_count_digits f_without_zeros f_check_base f_aligned f_compared f_check_same_base f_check_number f_beyond f_check_bottom f_numbers_in_place f_rank_of f_number_at f__law_source f__law_draw f__law_base f__law_precision f__law_power f__law_lowest f__law_full f__law_small f__law_equal f__law_make f__law_is f__law_other_base f__law_above f__law_whole f__law_error f__law_told_rank f__law_no_number f__law_both_ways f__law_ranks_right f__law_refused_right f__law_beyond_right f_law f_LostError f_BadBase i_BadBase N_BadBase cda_BadBase cc_BadBase f_BadGrid i_BadGrid N_BadGrid cda_BadGrid cc_BadGrid f_MixedBases i_MixedBases N_MixedBases cda_MixedBases cc_MixedBases f_NotANumber i_NotANumber N_NotANumber cda_NotANumber cc_NotANumber f_NoRank i_NoRank N_NoRank cda_NoRank cc_NoRank : Addr}
    {od_Exact___init__ an_Exact___init__ odT_Exact___init__ od_Exact___abs__ an_Exact___abs__ od_Exact___gt__ an_Exact___gt__ od_Exact_sign an_Exact_sign od_Exact_digits an_Exact_digits od_Exact_place an_Exact_place od_Grid___init__ an_Grid___init__ od_Grid___contains__ an_Grid___contains__ od_Grid_unit an_Grid_unit od_Grid_greatest an_Grid_greatest od_power an_power od_squares_up_to an_squares_up_to od_count_digits an_count_digits od_without_zeros an_without_zeros od_check_base an_check_base od_aligned an_aligned od_compared an_compared od_check_same_base an_check_same_base od_check_number an_check_number od_beyond an_beyond od_check_bottom an_check_bottom od_numbers_in_place an_numbers_in_place od_rank_of an_rank_of od_number_at an_number_at od__law_source an__law_source od__law_draw an__law_draw od__law_base an__law_base od__law_precision an__law_precision od__law_power an__law_power od__law_lowest an__law_lowest od__law_full an__law_full od__law_small an__law_small od__law_equal an__law_equal od__law_make an__law_make od__law_is an__law_is od__law_other_base an__law_other_base od__law_above an__law_above od__law_whole an__law_whole od__law_error an__law_error od__law_told_rank an__law_told_rank od__law_no_number an__law_no_number od__law_both_ways an__law_both_ways od__law_ranks_right an__law_ranks_right od__law_refused_right an__law_refused_right od__law_beyond_right an__law_beyond_right od_law an_law dd_BadBase od_BadBase an_BadBase ccd_BadBase cld_BadBase dd_BadGrid od_BadGrid an_BadGrid ccd_BadGrid cld_BadGrid dd_MixedBases od_MixedBases an_MixedBases ccd_MixedBases cld_MixedBases dd_NotANumber od_NotANumber an_NotANumber ccd_NotANumber cld_NotANumber dd_NoRank od_NoRank an_NoRank ccd_NoRank cld_NoRank : Option Addr}
    {sl_Exact___init__ slT_Exact___init__ sl_Exact___abs__ sl_Exact___gt__ sl_Exact_sign sl_Exact_digits sl_Exact_place sl_Grid___init__ sl_Grid___contains__ sl_Grid_unit sl_Grid_greatest sl_power sl_squares_up_to sl_count_digits sl_without_zeros sl_check_base sl_aligned sl_compared sl_check_same_base sl_check_number sl_beyond sl_check_bottom sl_numbers_in_place sl_rank_of sl_number_at sl__law_source sl__law_draw sl__law_base sl__law_precision sl__law_power sl__law_lowest sl__law_full sl__law_small sl__law_equal sl__law_make sl__law_is sl__law_other_base sl__law_above sl__law_whole sl__law_error sl__law_told_rank sl__law_no_number sl__law_both_ways sl__law_ranks_right sl__law_refused_right sl__law_beyond_right sl_law sl_BadBase ccs_BadBase csl_BadBase sl_BadGrid ccs_BadGrid csl_BadGrid sl_MixedBases ccs_MixedBases csl_MixedBases sl_NotANumber ccs_NotANumber csl_NotANumber sl_NoRank ccs_NoRank csl_NoRank : Array (Option Value)}
    {mc_Grid cu_Grid_LEAST cu_Grid_MOST oc_Exact___init__ kV_Exact___init__ dc_Exact___init__ pm_Exact___init__ cd_Exact___init__ ct_Exact___init__ ocT_Exact___init__ oc_Exact___abs__ kV_Exact___abs__ dc_Exact___abs__ pm_Exact___abs__ cd_Exact___abs__ ct_Exact___abs__ oc_Exact___gt__ kV_Exact___gt__ dc_Exact___gt__ pm_Exact___gt__ cd_Exact___gt__ ct_Exact___gt__ oc_Exact_sign kV_Exact_sign dc_Exact_sign pm_Exact_sign cd_Exact_sign ct_Exact_sign oc_Exact_digits kV_Exact_digits dc_Exact_digits pm_Exact_digits cd_Exact_digits ct_Exact_digits oc_Exact_place kV_Exact_place dc_Exact_place pm_Exact_place cd_Exact_place ct_Exact_place oc_Grid___init__ dc_Grid___init__ pm_Grid___init__ cd_Grid___init__ ct_Grid___init__ ku0_Grid___init__ ku1_Grid___init__ oc_Grid___contains__ kV_Grid___contains__ dc_Grid___contains__ pm_Grid___contains__ cd_Grid___contains__ ct_Grid___contains__ oc_Grid_unit kV_Grid_unit dc_Grid_unit pm_Grid_unit cd_Grid_unit ct_Grid_unit oc_Grid_greatest kV_Grid_greatest dc_Grid_greatest pm_Grid_greatest cd_Grid_greatest ct_Grid_greatest oc_power kV_power dc_power pm_power cd_power ct_power oc_squares_up_to kV_squares_up_to dc_squares_up_to pm_squares_up_to cd_squares_up_to ct_squares_up_to oc_count_digits kV_count_digits dc_count_digits pm_count_digits cd_count_digits ct_count_digits oc_without_zeros kV_without_zeros dc_without_zeros pm_without_zeros cd_without_zeros ct_without_zeros oc_check_base kV_check_base dc_check_base pm_check_base cd_check_base ct_check_base oc_aligned kV_aligned dc_aligned pm_aligned cd_aligned ct_aligned oc_compared kV_compared dc_compared pm_compared cd_compared ct_compared oc_check_same_base kV_check_same_base dc_check_same_base pm_check_same_base cd_check_same_base ct_check_same_base oc_check_number kV_check_number dc_check_number pm_check_number cd_check_number ct_check_number oc_beyond kV_beyond dc_beyond pm_beyond cd_beyond ct_beyond oc_check_bottom kV_check_bottom dc_check_bottom pm_check_bottom cd_check_bottom ct_check_bottom oc_numbers_in_place kV_numbers_in_place dc_numbers_in_place pm_numbers_in_place cd_numbers_in_place ct_numbers_in_place oc_rank_of kV_rank_of dc_rank_of pm_rank_of cd_rank_of ct_rank_of oc_number_at kV_number_at dc_number_at pm_number_at cd_number_at ct_number_at oc__law_source kV__law_source dc__law_source pm__law_source cd__law_source ct__law_source oc__law_draw kV__law_draw dc__law_draw pm__law_draw cd__law_draw ct__law_draw oc__law_base kV__law_base dc__law_base pm__law_base cd__law_base ct__law_base oc__law_precision kV__law_precision dc__law_precision pm__law_precision cd__law_precision ct__law_precision oc__law_power kV__law_power dc__law_power pm__law_power cd__law_power ct__law_power oc__law_lowest kV__law_lowest dc__law_lowest pm__law_lowest cd__law_lowest ct__law_lowest oc__law_full kV__law_full dc__law_full pm__law_full cd__law_full ct__law_full oc__law_small kV__law_small dc__law_small pm__law_small cd__law_small ct__law_small oc__law_equal kV__law_equal dc__law_equal pm__law_equal cd__law_equal ct__law_equal oc__law_make kV__law_make dc__law_make pm__law_make cd__law_make ct__law_make oc__law_is kV__law_is dc__law_is pm__law_is cd__law_is ct__law_is oc__law_other_base kV__law_other_base dc__law_other_base pm__law_other_base cd__law_other_base ct__law_other_base oc__law_above kV__law_above dc__law_above pm__law_above cd__law_above ct__law_above oc__law_whole kV__law_whole dc__law_whole pm__law_whole cd__law_whole ct__law_whole oc__law_error kV__law_error dc__law_error pm__law_error cd__law_error ct__law_error oc__law_told_rank kV__law_told_rank dc__law_told_rank pm__law_told_rank cd__law_told_rank ct__law_told_rank oc__law_no_number kV__law_no_number dc__law_no_number pm__law_no_number cd__law_no_number ct__law_no_number oc__law_both_ways kV__law_both_ways dc__law_both_ways pm__law_both_ways cd__law_both_ways ct__law_both_ways oc__law_ranks_right kV__law_ranks_right dc__law_ranks_right pm__law_ranks_right cd__law_ranks_right ct__law_ranks_right oc__law_refused_right kV__law_refused_right dc__law_refused_right pm__law_refused_right cd__law_refused_right ct__law_refused_right oc__law_beyond_right kV__law_beyond_right dc__law_beyond_right pm__law_beyond_right cd__law_beyond_right ct__law_beyond_right oc_law kV_law dc_law pm_law cd_law ct_law oc_BadBase kV_BadBase dc_BadBase pm_BadBase ct_BadBase ccl_BadBase cl_BadBase oc_BadGrid kV_BadGrid dc_BadGrid pm_BadGrid ct_BadGrid ccl_BadGrid cl_BadGrid oc_MixedBases kV_MixedBases dc_MixedBases pm_MixedBases ct_MixedBases ccl_MixedBases cl_MixedBases oc_NotANumber kV_NotANumber dc_NotANumber pm_NotANumber ct_NotANumber ccl_NotANumber cl_NotANumber oc_NoRank kV_NoRank dc_NoRank pm_NoRank ct_NoRank ccl_NoRank cl_NoRank : Value}
    {rest_Exact_sign : List Value}
    {rest_Exact_digits : List Value}
    {rest_Exact_place : List Value}
    {rest_Grid_greatest : List Value}
    {itT_Exact___init__ : Array Value}
    {nT_Exact___init__ : Nat}
    {nm_BadBase q_BadBase : Str}
    {bs_BadBase bm_BadBase sub_BadBase : List Value}
    {sn_BadBase : List Str}
    {ab_BadBase : Bool}
    {col_BadBase : Option Bool}
    {m0_BadBase m1_BadBase m2_BadBase m3_BadBase m5_BadBase : Option Value}
    {vs_BadBase : Array Value}
    {fl_BadBase : Str}
    {tf_BadBase : Tok}
    {nm_BadGrid q_BadGrid : Str}
    {bs_BadGrid bm_BadGrid sub_BadGrid : List Value}
    {sn_BadGrid : List Str}
    {ab_BadGrid : Bool}
    {col_BadGrid : Option Bool}
    {m0_BadGrid m1_BadGrid m2_BadGrid m3_BadGrid m5_BadGrid : Option Value}
    {vs_BadGrid : Array Value}
    {fl_BadGrid : Str}
    {tf_BadGrid : Tok}
    {nm_MixedBases q_MixedBases : Str}
    {bs_MixedBases bm_MixedBases sub_MixedBases : List Value}
    {sn_MixedBases : List Str}
    {ab_MixedBases : Bool}
    {col_MixedBases : Option Bool}
    {m0_MixedBases m1_MixedBases m2_MixedBases m3_MixedBases m5_MixedBases : Option Value}
    {vs_MixedBases : Array Value}
    {fl_MixedBases : Str}
    {tf_MixedBases : Tok}
    {nm_NotANumber q_NotANumber : Str}
    {bs_NotANumber bm_NotANumber sub_NotANumber : List Value}
    {sn_NotANumber : List Str}
    {ab_NotANumber : Bool}
    {col_NotANumber : Option Bool}
    {m0_NotANumber m1_NotANumber m2_NotANumber m3_NotANumber m5_NotANumber : Option Value}
    {vs_NotANumber : Array Value}
    {fl_NotANumber : Str}
    {tf_NotANumber : Tok}
    {nm_NoRank q_NoRank : Str}
    {bs_NoRank bm_NoRank sub_NoRank : List Value}
    {sn_NoRank : List Str}
    {ab_NoRank : Bool}
    {col_NoRank : Option Bool}
    {m0_NoRank m1_NoRank m2_NoRank m3_NoRank m5_NoRank : Option Value}
    {vs_NoRank : Array Value}
    {fl_NoRank : Str}
    {tf_NoRank : Tok}
    (a_Exact : PySem.W.nsIn K mainGlobals "Exact" = some (some (.ref f_Exact)))
    (pg_Exact : PySem.W.plainGet K f_Exact Str.empty = true)
    (hd_Exact : PySem.W.hasDictIn K f_Exact = true)
    (po_Exact : PySem.W.plainOver K f_Exact = true)
    (sa_Exact : PySem.W.findIn K (.ref f_Exact) "__setattr__" = some (some (.builtin "object.__setattr__")))
    (ha_Exact : PySem.W.findIn K (.ref f_Exact) "__class__" = some (some (.builtin "object.__class__")))
    (hm_Exact : PySem.W.mroIn K f_Exact (.type "object") = some true)
    (kc_Exact : PySem.W.keepIn K (.ref f_Exact) = true)
    (mk_Exact : PySem.W.makesIn K f_Exact = true)
    (ii_Exact : PySem.W.findIn K (.ref f_Exact) "__init__" = some (some (.ref f_Exact___init__)))
    (fi_Exact : PySem.W.isFn K (.ref f_Exact___init__) = true)
    (n_base_Exact : PySem.W.findIn K (.ref f_Exact) "base" = some none)
    (n_coefficient_Exact : PySem.W.findIn K (.ref f_Exact) "coefficient" = some none)
    (n_exponent_Exact : PySem.W.findIn K (.ref f_Exact) "exponent" = some none)
    (at___abs___Exact : PySem.W.findIn K (.ref f_Exact) "__abs__" = some (some (.ref f_Exact___abs__)))
    (if___abs___Exact : PySem.W.isFn K (.ref f_Exact___abs__) = true)
    (at___gt___Exact : PySem.W.findIn K (.ref f_Exact) "__gt__" = some (some (.ref f_Exact___gt__)))
    (if___gt___Exact : PySem.W.isFn K (.ref f_Exact___gt__) = true)
    (a_Grid : PySem.W.nsIn K mainGlobals "Grid" = some (some (.ref f_Grid)))
    (pg_Grid : PySem.W.plainGet K f_Grid Str.empty = true)
    (hd_Grid : PySem.W.hasDictIn K f_Grid = true)
    (po_Grid : PySem.W.plainOver K f_Grid = true)
    (sa_Grid : PySem.W.findIn K (.ref f_Grid) "__setattr__" = some (some (.builtin "object.__setattr__")))
    (ha_Grid : PySem.W.findIn K (.ref f_Grid) "__class__" = some (some (.builtin "object.__class__")))
    (hm_Grid : PySem.W.mroIn K f_Grid (.type "object") = some true)
    (kc_Grid : PySem.W.keepIn K (.ref f_Grid) = true)
    (mk_Grid : PySem.W.makesIn K f_Grid = true)
    (ii_Grid : PySem.W.findIn K (.ref f_Grid) "__init__" = some (some (.ref f_Grid___init__)))
    (fi_Grid : PySem.W.isFn K (.ref f_Grid___init__) = true)
    (ty_Grid : PySem.W.typeIn K (.ref f_Grid) = some mc_Grid)
    (rd_Grid : PySem.W.readsIn K f_Grid mc_Grid = true)
    (rg_Grid : PySem.W.specialIn K (.ref f_Grid) "__getattribute__" = some (some (.builtin "type.__getattribute__")))
    (cv_LEAST_Grid : PySem.W.findCls K (.ref f_Grid) mc_Grid "LEAST" = some (.val cu_Grid_LEAST))
    (cr_LEAST_Grid : RelV (.int 3) cu_Grid_LEAST)
    (cv_MOST_Grid : PySem.W.findCls K (.ref f_Grid) mc_Grid "MOST" = some (.val cu_Grid_MOST))
    (cr_MOST_Grid : RelV (.int 200) cu_Grid_MOST)
    (n_base_Grid : PySem.W.findIn K (.ref f_Grid) "base" = some none)
    (n_precision_Grid : PySem.W.findIn K (.ref f_Grid) "precision" = some none)
    (n_bottom_Grid : PySem.W.findIn K (.ref f_Grid) "bottom" = some none)
    (n_top_Grid : PySem.W.findIn K (.ref f_Grid) "top" = some none)
    (at___contains___Grid : PySem.W.findIn K (.ref f_Grid) "__contains__" = some (some (.ref f_Grid___contains__)))
    (if___contains___Grid : PySem.W.isFn K (.ref f_Grid___contains__) = true)
    (at_unit_Grid : PySem.W.findIn K (.ref f_Grid) "unit" = some (some (.ref f_Grid_unit)))
    (if_unit_Grid : PySem.W.isFn K (.ref f_Grid_unit) = true)
    (pat_Exact_sign : PySem.W.findIn K (.ref f_Exact) "sign" = some (some (.ref p_Exact_sign)))
    (pge_Exact_sign : PySem.W.specialIn K (.ref p_Exact_sign) "__get__" = some (some (.builtin "property.__get__")))
    (pta_Exact_sign : PySem.W.takesIn K (.ref p_Exact_sign) = some true)
    (prc_Exact_sign : PySem.W.recIn K p_Exact_sign "property" = some (.ref f_Exact_sign :: rest_Exact_sign))
    (pat_Exact_digits : PySem.W.findIn K (.ref f_Exact) "digits" = some (some (.ref p_Exact_digits)))
    (pge_Exact_digits : PySem.W.specialIn K (.ref p_Exact_digits) "__get__" = some (some (.builtin "property.__get__")))
    (pta_Exact_digits : PySem.W.takesIn K (.ref p_Exact_digits) = some true)
    (prc_Exact_digits : PySem.W.recIn K p_Exact_digits "property" = some (.ref f_Exact_digits :: rest_Exact_digits))
    (pat_Exact_place : PySem.W.findIn K (.ref f_Exact) "place" = some (some (.ref p_Exact_place)))
    (pge_Exact_place : PySem.W.specialIn K (.ref p_Exact_place) "__get__" = some (some (.builtin "property.__get__")))
    (pta_Exact_place : PySem.W.takesIn K (.ref p_Exact_place) = some true)
    (prc_Exact_place : PySem.W.recIn K p_Exact_place "property" = some (.ref f_Exact_place :: rest_Exact_place))
    (pat_Grid_greatest : PySem.W.findIn K (.ref f_Grid) "greatest" = some (some (.ref p_Grid_greatest)))
    (pge_Grid_greatest : PySem.W.specialIn K (.ref p_Grid_greatest) "__get__" = some (some (.builtin "property.__get__")))
    (pta_Grid_greatest : PySem.W.takesIn K (.ref p_Grid_greatest) = some true)
    (prc_Grid_greatest : PySem.W.recIn K p_Grid_greatest "property" = some (.ref f_Grid_greatest :: rest_Grid_greatest))
    (sf_Exact : PySem.W.selfFirst K f_Exact = true)
    (su_Exact : PySem.W.subIn K (.type "int") (.ref f_Exact) = some false)
    (l_Exact___init__ : K.lookup f_Exact___init__ = some ⟨oc_Exact___init__, od_Exact___init__, .func (PySem.W.fnOf "__init__" "Exact.__init__" (defArgs S_Exact___init__) (defBody S_Exact___init__) (defScope S_Exact___init__) (.ref T_Exact___init__) kV_Exact___init__ dc_Exact___init__ pm_Exact___init__ an_Exact___init__ cd_Exact___init__ ct_Exact___init__), sl_Exact___init__⟩)
    (c_Exact___init__ : PySem.W.codeIn K cd_Exact___init__ "Exact.__init__" = true)
    (k_Exact___init__ : PySem.W.keepIn K (.ref f_Exact___init__) = true)
    (lT_Exact___init__ : K.lookup T_Exact___init__ = some ⟨ocT_Exact___init__, odT_Exact___init__, .seq itT_Exact___init__ nT_Exact___init__, slT_Exact___init__⟩)
    (vT_Exact___init__ : Vals [V.int 0] itT_Exact___init__.toList)
    (l_Exact___abs__ : K.lookup f_Exact___abs__ = some ⟨oc_Exact___abs__, od_Exact___abs__, .func (PySem.W.fnOf "__abs__" "Exact.__abs__" (defArgs S_Exact___abs__) (defBody S_Exact___abs__) (defScope S_Exact___abs__) .none kV_Exact___abs__ dc_Exact___abs__ pm_Exact___abs__ an_Exact___abs__ cd_Exact___abs__ ct_Exact___abs__), sl_Exact___abs__⟩)
    (c_Exact___abs__ : PySem.W.codeIn K cd_Exact___abs__ "Exact.__abs__" = true)
    (k_Exact___abs__ : PySem.W.keepIn K (.ref f_Exact___abs__) = true)
    (l_Exact___gt__ : K.lookup f_Exact___gt__ = some ⟨oc_Exact___gt__, od_Exact___gt__, .func (PySem.W.fnOf "__gt__" "Exact.__gt__" (defArgs S_Exact___gt__) (defBody S_Exact___gt__) (defScope S_Exact___gt__) .none kV_Exact___gt__ dc_Exact___gt__ pm_Exact___gt__ an_Exact___gt__ cd_Exact___gt__ ct_Exact___gt__), sl_Exact___gt__⟩)
    (c_Exact___gt__ : PySem.W.codeIn K cd_Exact___gt__ "Exact.__gt__" = true)
    (k_Exact___gt__ : PySem.W.keepIn K (.ref f_Exact___gt__) = true)
    (l_Exact_sign : K.lookup f_Exact_sign = some ⟨oc_Exact_sign, od_Exact_sign, .func (PySem.W.fnOf "sign" "Exact.sign" (defArgs S_Exact_sign) (defBody S_Exact_sign) (defScope S_Exact_sign) .none kV_Exact_sign dc_Exact_sign pm_Exact_sign an_Exact_sign cd_Exact_sign ct_Exact_sign), sl_Exact_sign⟩)
    (c_Exact_sign : PySem.W.codeIn K cd_Exact_sign "Exact.sign" = true)
    (k_Exact_sign : PySem.W.keepIn K (.ref f_Exact_sign) = true)
    (l_Exact_digits : K.lookup f_Exact_digits = some ⟨oc_Exact_digits, od_Exact_digits, .func (PySem.W.fnOf "digits" "Exact.digits" (defArgs S_Exact_digits) (defBody S_Exact_digits) (defScope S_Exact_digits) .none kV_Exact_digits dc_Exact_digits pm_Exact_digits an_Exact_digits cd_Exact_digits ct_Exact_digits), sl_Exact_digits⟩)
    (c_Exact_digits : PySem.W.codeIn K cd_Exact_digits "Exact.digits" = true)
    (k_Exact_digits : PySem.W.keepIn K (.ref f_Exact_digits) = true)
    (l_Exact_place : K.lookup f_Exact_place = some ⟨oc_Exact_place, od_Exact_place, .func (PySem.W.fnOf "place" "Exact.place" (defArgs S_Exact_place) (defBody S_Exact_place) (defScope S_Exact_place) .none kV_Exact_place dc_Exact_place pm_Exact_place an_Exact_place cd_Exact_place ct_Exact_place), sl_Exact_place⟩)
    (c_Exact_place : PySem.W.codeIn K cd_Exact_place "Exact.place" = true)
    (k_Exact_place : PySem.W.keepIn K (.ref f_Exact_place) = true)
    (l_Grid___init__ : K.lookup f_Grid___init__ = some ⟨oc_Grid___init__, od_Grid___init__, .func (PySem.W.fnOf "__init__" "Grid.__init__" (defArgs S_Grid___init__) (defBody S_Grid___init__) (defScope S_Grid___init__) .none (.ref KD_Grid___init__) dc_Grid___init__ pm_Grid___init__ an_Grid___init__ cd_Grid___init__ ct_Grid___init__), sl_Grid___init__⟩)
    (kd0_Grid___init__ : PySem.W.nsIn K KD_Grid___init__ "bottom" = some (some ku0_Grid___init__))
    (kr0_Grid___init__ : RelV (.non) ku0_Grid___init__)
    (kd1_Grid___init__ : PySem.W.nsIn K KD_Grid___init__ "top" = some (some ku1_Grid___init__))
    (kr1_Grid___init__ : RelV (.non) ku1_Grid___init__)
    (c_Grid___init__ : PySem.W.codeIn K cd_Grid___init__ "Grid.__init__" = true)
    (k_Grid___init__ : PySem.W.keepIn K (.ref f_Grid___init__) = true)
    (l_Grid___contains__ : K.lookup f_Grid___contains__ = some ⟨oc_Grid___contains__, od_Grid___contains__, .func (PySem.W.fnOf "__contains__" "Grid.__contains__" (defArgs S_Grid___contains__) (defBody S_Grid___contains__) (defScope S_Grid___contains__) .none kV_Grid___contains__ dc_Grid___contains__ pm_Grid___contains__ an_Grid___contains__ cd_Grid___contains__ ct_Grid___contains__), sl_Grid___contains__⟩)
    (c_Grid___contains__ : PySem.W.codeIn K cd_Grid___contains__ "Grid.__contains__" = true)
    (k_Grid___contains__ : PySem.W.keepIn K (.ref f_Grid___contains__) = true)
    (l_Grid_unit : K.lookup f_Grid_unit = some ⟨oc_Grid_unit, od_Grid_unit, .func (PySem.W.fnOf "unit" "Grid.unit" (defArgs S_Grid_unit) (defBody S_Grid_unit) (defScope S_Grid_unit) .none kV_Grid_unit dc_Grid_unit pm_Grid_unit an_Grid_unit cd_Grid_unit ct_Grid_unit), sl_Grid_unit⟩)
    (c_Grid_unit : PySem.W.codeIn K cd_Grid_unit "Grid.unit" = true)
    (k_Grid_unit : PySem.W.keepIn K (.ref f_Grid_unit) = true)
    (l_Grid_greatest : K.lookup f_Grid_greatest = some ⟨oc_Grid_greatest, od_Grid_greatest, .func (PySem.W.fnOf "greatest" "Grid.greatest" (defArgs S_Grid_greatest) (defBody S_Grid_greatest) (defScope S_Grid_greatest) .none kV_Grid_greatest dc_Grid_greatest pm_Grid_greatest an_Grid_greatest cd_Grid_greatest ct_Grid_greatest), sl_Grid_greatest⟩)
    (c_Grid_greatest : PySem.W.codeIn K cd_Grid_greatest "Grid.greatest" = true)
    (k_Grid_greatest : PySem.W.keepIn K (.ref f_Grid_greatest) = true)
    (a_power : PySem.W.nsIn K mainGlobals "power" = some (some (.ref f_power)))
    (l_power : K.lookup f_power = some ⟨oc_power, od_power, .func (PySem.W.fnOf "power" "power" (defArgs S_power) (defBody S_power) (defScope S_power) .none kV_power dc_power pm_power an_power cd_power ct_power), sl_power⟩)
    (c_power : PySem.W.codeIn K cd_power "power" = true)
    (k_power : PySem.W.keepIn K (.ref f_power) = true)
    (a_squares_up_to : PySem.W.nsIn K mainGlobals "squares_up_to" = some (some (.ref f_squares_up_to)))
    (l_squares_up_to : K.lookup f_squares_up_to = some ⟨oc_squares_up_to, od_squares_up_to, .func (PySem.W.fnOf "squares_up_to" "squares_up_to" (defArgs S_squares_up_to) (defBody S_squares_up_to) (defScope S_squares_up_to) .none kV_squares_up_to dc_squares_up_to pm_squares_up_to an_squares_up_to cd_squares_up_to ct_squares_up_to), sl_squares_up_to⟩)
    (c_squares_up_to : PySem.W.codeIn K cd_squares_up_to "squares_up_to" = true)
    (k_squares_up_to : PySem.W.keepIn K (.ref f_squares_up_to) = true)
    (a_count_digits : PySem.W.nsIn K mainGlobals "count_digits" = some (some (.ref f_count_digits)))
    (l_count_digits : K.lookup f_count_digits = some ⟨oc_count_digits, od_count_digits, .func (PySem.W.fnOf "count_digits" "count_digits" (defArgs S_count_digits) (defBody S_count_digits) (defScope S_count_digits) .none kV_count_digits dc_count_digits pm_count_digits an_count_digits cd_count_digits ct_count_digits), sl_count_digits⟩)
    (c_count_digits : PySem.W.codeIn K cd_count_digits "count_digits" = true)
    (k_count_digits : PySem.W.keepIn K (.ref f_count_digits) = true)
    (a_without_zeros : PySem.W.nsIn K mainGlobals "without_zeros" = some (some (.ref f_without_zeros)))
    (l_without_zeros : K.lookup f_without_zeros = some ⟨oc_without_zeros, od_without_zeros, .func (PySem.W.fnOf "without_zeros" "without_zeros" (defArgs S_without_zeros) (defBody S_without_zeros) (defScope S_without_zeros) .none kV_without_zeros dc_without_zeros pm_without_zeros an_without_zeros cd_without_zeros ct_without_zeros), sl_without_zeros⟩)
    (c_without_zeros : PySem.W.codeIn K cd_without_zeros "without_zeros" = true)
    (k_without_zeros : PySem.W.keepIn K (.ref f_without_zeros) = true)
    (a_check_base : PySem.W.nsIn K mainGlobals "check_base" = some (some (.ref f_check_base)))
    (l_check_base : K.lookup f_check_base = some ⟨oc_check_base, od_check_base, .func (PySem.W.fnOf "check_base" "check_base" (defArgs S_check_base) (defBody S_check_base) (defScope S_check_base) .none kV_check_base dc_check_base pm_check_base an_check_base cd_check_base ct_check_base), sl_check_base⟩)
    (c_check_base : PySem.W.codeIn K cd_check_base "check_base" = true)
    (k_check_base : PySem.W.keepIn K (.ref f_check_base) = true)
    (a_aligned : PySem.W.nsIn K mainGlobals "aligned" = some (some (.ref f_aligned)))
    (l_aligned : K.lookup f_aligned = some ⟨oc_aligned, od_aligned, .func (PySem.W.fnOf "aligned" "aligned" (defArgs S_aligned) (defBody S_aligned) (defScope S_aligned) .none kV_aligned dc_aligned pm_aligned an_aligned cd_aligned ct_aligned), sl_aligned⟩)
    (c_aligned : PySem.W.codeIn K cd_aligned "aligned" = true)
    (k_aligned : PySem.W.keepIn K (.ref f_aligned) = true)
    (a_compared : PySem.W.nsIn K mainGlobals "compared" = some (some (.ref f_compared)))
    (l_compared : K.lookup f_compared = some ⟨oc_compared, od_compared, .func (PySem.W.fnOf "compared" "compared" (defArgs S_compared) (defBody S_compared) (defScope S_compared) .none kV_compared dc_compared pm_compared an_compared cd_compared ct_compared), sl_compared⟩)
    (c_compared : PySem.W.codeIn K cd_compared "compared" = true)
    (k_compared : PySem.W.keepIn K (.ref f_compared) = true)
    (a_check_same_base : PySem.W.nsIn K mainGlobals "check_same_base" = some (some (.ref f_check_same_base)))
    (l_check_same_base : K.lookup f_check_same_base = some ⟨oc_check_same_base, od_check_same_base, .func (PySem.W.fnOf "check_same_base" "check_same_base" (defArgs S_check_same_base) (defBody S_check_same_base) (defScope S_check_same_base) .none kV_check_same_base dc_check_same_base pm_check_same_base an_check_same_base cd_check_same_base ct_check_same_base), sl_check_same_base⟩)
    (c_check_same_base : PySem.W.codeIn K cd_check_same_base "check_same_base" = true)
    (k_check_same_base : PySem.W.keepIn K (.ref f_check_same_base) = true)
    (a_check_number : PySem.W.nsIn K mainGlobals "check_number" = some (some (.ref f_check_number)))
    (l_check_number : K.lookup f_check_number = some ⟨oc_check_number, od_check_number, .func (PySem.W.fnOf "check_number" "check_number" (defArgs S_check_number) (defBody S_check_number) (defScope S_check_number) .none kV_check_number dc_check_number pm_check_number an_check_number cd_check_number ct_check_number), sl_check_number⟩)
    (c_check_number : PySem.W.codeIn K cd_check_number "check_number" = true)
    (k_check_number : PySem.W.keepIn K (.ref f_check_number) = true)
    (a_beyond : PySem.W.nsIn K mainGlobals "beyond" = some (some (.ref f_beyond)))
    (l_beyond : K.lookup f_beyond = some ⟨oc_beyond, od_beyond, .func (PySem.W.fnOf "beyond" "beyond" (defArgs S_beyond) (defBody S_beyond) (defScope S_beyond) .none kV_beyond dc_beyond pm_beyond an_beyond cd_beyond ct_beyond), sl_beyond⟩)
    (c_beyond : PySem.W.codeIn K cd_beyond "beyond" = true)
    (k_beyond : PySem.W.keepIn K (.ref f_beyond) = true)
    (a_check_bottom : PySem.W.nsIn K mainGlobals "check_bottom" = some (some (.ref f_check_bottom)))
    (l_check_bottom : K.lookup f_check_bottom = some ⟨oc_check_bottom, od_check_bottom, .func (PySem.W.fnOf "check_bottom" "check_bottom" (defArgs S_check_bottom) (defBody S_check_bottom) (defScope S_check_bottom) .none kV_check_bottom dc_check_bottom pm_check_bottom an_check_bottom cd_check_bottom ct_check_bottom), sl_check_bottom⟩)
    (c_check_bottom : PySem.W.codeIn K cd_check_bottom "check_bottom" = true)
    (k_check_bottom : PySem.W.keepIn K (.ref f_check_bottom) = true)
    (a_numbers_in_place : PySem.W.nsIn K mainGlobals "numbers_in_place" = some (some (.ref f_numbers_in_place)))
    (l_numbers_in_place : K.lookup f_numbers_in_place = some ⟨oc_numbers_in_place, od_numbers_in_place, .func (PySem.W.fnOf "numbers_in_place" "numbers_in_place" (defArgs S_numbers_in_place) (defBody S_numbers_in_place) (defScope S_numbers_in_place) .none kV_numbers_in_place dc_numbers_in_place pm_numbers_in_place an_numbers_in_place cd_numbers_in_place ct_numbers_in_place), sl_numbers_in_place⟩)
    (c_numbers_in_place : PySem.W.codeIn K cd_numbers_in_place "numbers_in_place" = true)
    (k_numbers_in_place : PySem.W.keepIn K (.ref f_numbers_in_place) = true)
    (a_rank_of : PySem.W.nsIn K mainGlobals "rank_of" = some (some (.ref f_rank_of)))
    (l_rank_of : K.lookup f_rank_of = some ⟨oc_rank_of, od_rank_of, .func (PySem.W.fnOf "rank_of" "rank_of" (defArgs S_rank_of) (defBody S_rank_of) (defScope S_rank_of) .none kV_rank_of dc_rank_of pm_rank_of an_rank_of cd_rank_of ct_rank_of), sl_rank_of⟩)
    (c_rank_of : PySem.W.codeIn K cd_rank_of "rank_of" = true)
    (k_rank_of : PySem.W.keepIn K (.ref f_rank_of) = true)
    (a_number_at : PySem.W.nsIn K mainGlobals "number_at" = some (some (.ref f_number_at)))
    (l_number_at : K.lookup f_number_at = some ⟨oc_number_at, od_number_at, .func (PySem.W.fnOf "number_at" "number_at" (defArgs S_number_at) (defBody S_number_at) (defScope S_number_at) .none kV_number_at dc_number_at pm_number_at an_number_at cd_number_at ct_number_at), sl_number_at⟩)
    (c_number_at : PySem.W.codeIn K cd_number_at "number_at" = true)
    (k_number_at : PySem.W.keepIn K (.ref f_number_at) = true)
    (a__law_source : PySem.W.nsIn K mainGlobals "_law_source" = some (some (.ref f__law_source)))
    (l__law_source : K.lookup f__law_source = some ⟨oc__law_source, od__law_source, .func (PySem.W.fnOf "_law_source" "_law_source" (defArgs S__law_source) (defBody S__law_source) (defScope S__law_source) .none kV__law_source dc__law_source pm__law_source an__law_source cd__law_source ct__law_source), sl__law_source⟩)
    (c__law_source : PySem.W.codeIn K cd__law_source "_law_source" = true)
    (k__law_source : PySem.W.keepIn K (.ref f__law_source) = true)
    (a__law_draw : PySem.W.nsIn K mainGlobals "_law_draw" = some (some (.ref f__law_draw)))
    (l__law_draw : K.lookup f__law_draw = some ⟨oc__law_draw, od__law_draw, .func (PySem.W.fnOf "_law_draw" "_law_draw" (defArgs S__law_draw) (defBody S__law_draw) (defScope S__law_draw) .none kV__law_draw dc__law_draw pm__law_draw an__law_draw cd__law_draw ct__law_draw), sl__law_draw⟩)
    (c__law_draw : PySem.W.codeIn K cd__law_draw "_law_draw" = true)
    (k__law_draw : PySem.W.keepIn K (.ref f__law_draw) = true)
    (a__law_base : PySem.W.nsIn K mainGlobals "_law_base" = some (some (.ref f__law_base)))
    (l__law_base : K.lookup f__law_base = some ⟨oc__law_base, od__law_base, .func (PySem.W.fnOf "_law_base" "_law_base" (defArgs S__law_base) (defBody S__law_base) (defScope S__law_base) .none kV__law_base dc__law_base pm__law_base an__law_base cd__law_base ct__law_base), sl__law_base⟩)
    (c__law_base : PySem.W.codeIn K cd__law_base "_law_base" = true)
    (k__law_base : PySem.W.keepIn K (.ref f__law_base) = true)
    (a__law_precision : PySem.W.nsIn K mainGlobals "_law_precision" = some (some (.ref f__law_precision)))
    (l__law_precision : K.lookup f__law_precision = some ⟨oc__law_precision, od__law_precision, .func (PySem.W.fnOf "_law_precision" "_law_precision" (defArgs S__law_precision) (defBody S__law_precision) (defScope S__law_precision) .none kV__law_precision dc__law_precision pm__law_precision an__law_precision cd__law_precision ct__law_precision), sl__law_precision⟩)
    (c__law_precision : PySem.W.codeIn K cd__law_precision "_law_precision" = true)
    (k__law_precision : PySem.W.keepIn K (.ref f__law_precision) = true)
    (a__law_power : PySem.W.nsIn K mainGlobals "_law_power" = some (some (.ref f__law_power)))
    (l__law_power : K.lookup f__law_power = some ⟨oc__law_power, od__law_power, .func (PySem.W.fnOf "_law_power" "_law_power" (defArgs S__law_power) (defBody S__law_power) (defScope S__law_power) .none kV__law_power dc__law_power pm__law_power an__law_power cd__law_power ct__law_power), sl__law_power⟩)
    (c__law_power : PySem.W.codeIn K cd__law_power "_law_power" = true)
    (k__law_power : PySem.W.keepIn K (.ref f__law_power) = true)
    (a__law_lowest : PySem.W.nsIn K mainGlobals "_law_lowest" = some (some (.ref f__law_lowest)))
    (l__law_lowest : K.lookup f__law_lowest = some ⟨oc__law_lowest, od__law_lowest, .func (PySem.W.fnOf "_law_lowest" "_law_lowest" (defArgs S__law_lowest) (defBody S__law_lowest) (defScope S__law_lowest) .none kV__law_lowest dc__law_lowest pm__law_lowest an__law_lowest cd__law_lowest ct__law_lowest), sl__law_lowest⟩)
    (c__law_lowest : PySem.W.codeIn K cd__law_lowest "_law_lowest" = true)
    (k__law_lowest : PySem.W.keepIn K (.ref f__law_lowest) = true)
    (a__law_full : PySem.W.nsIn K mainGlobals "_law_full" = some (some (.ref f__law_full)))
    (l__law_full : K.lookup f__law_full = some ⟨oc__law_full, od__law_full, .func (PySem.W.fnOf "_law_full" "_law_full" (defArgs S__law_full) (defBody S__law_full) (defScope S__law_full) .none kV__law_full dc__law_full pm__law_full an__law_full cd__law_full ct__law_full), sl__law_full⟩)
    (c__law_full : PySem.W.codeIn K cd__law_full "_law_full" = true)
    (k__law_full : PySem.W.keepIn K (.ref f__law_full) = true)
    (a__law_small : PySem.W.nsIn K mainGlobals "_law_small" = some (some (.ref f__law_small)))
    (l__law_small : K.lookup f__law_small = some ⟨oc__law_small, od__law_small, .func (PySem.W.fnOf "_law_small" "_law_small" (defArgs S__law_small) (defBody S__law_small) (defScope S__law_small) .none kV__law_small dc__law_small pm__law_small an__law_small cd__law_small ct__law_small), sl__law_small⟩)
    (c__law_small : PySem.W.codeIn K cd__law_small "_law_small" = true)
    (k__law_small : PySem.W.keepIn K (.ref f__law_small) = true)
    (a__law_equal : PySem.W.nsIn K mainGlobals "_law_equal" = some (some (.ref f__law_equal)))
    (l__law_equal : K.lookup f__law_equal = some ⟨oc__law_equal, od__law_equal, .func (PySem.W.fnOf "_law_equal" "_law_equal" (defArgs S__law_equal) (defBody S__law_equal) (defScope S__law_equal) .none kV__law_equal dc__law_equal pm__law_equal an__law_equal cd__law_equal ct__law_equal), sl__law_equal⟩)
    (c__law_equal : PySem.W.codeIn K cd__law_equal "_law_equal" = true)
    (k__law_equal : PySem.W.keepIn K (.ref f__law_equal) = true)
    (a__law_make : PySem.W.nsIn K mainGlobals "_law_make" = some (some (.ref f__law_make)))
    (l__law_make : K.lookup f__law_make = some ⟨oc__law_make, od__law_make, .func (PySem.W.fnOf "_law_make" "_law_make" (defArgs S__law_make) (defBody S__law_make) (defScope S__law_make) .none kV__law_make dc__law_make pm__law_make an__law_make cd__law_make ct__law_make), sl__law_make⟩)
    (c__law_make : PySem.W.codeIn K cd__law_make "_law_make" = true)
    (k__law_make : PySem.W.keepIn K (.ref f__law_make) = true)
    (a__law_is : PySem.W.nsIn K mainGlobals "_law_is" = some (some (.ref f__law_is)))
    (l__law_is : K.lookup f__law_is = some ⟨oc__law_is, od__law_is, .func (PySem.W.fnOf "_law_is" "_law_is" (defArgs S__law_is) (defBody S__law_is) (defScope S__law_is) .none kV__law_is dc__law_is pm__law_is an__law_is cd__law_is ct__law_is), sl__law_is⟩)
    (c__law_is : PySem.W.codeIn K cd__law_is "_law_is" = true)
    (k__law_is : PySem.W.keepIn K (.ref f__law_is) = true)
    (a__law_other_base : PySem.W.nsIn K mainGlobals "_law_other_base" = some (some (.ref f__law_other_base)))
    (l__law_other_base : K.lookup f__law_other_base = some ⟨oc__law_other_base, od__law_other_base, .func (PySem.W.fnOf "_law_other_base" "_law_other_base" (defArgs S__law_other_base) (defBody S__law_other_base) (defScope S__law_other_base) .none kV__law_other_base dc__law_other_base pm__law_other_base an__law_other_base cd__law_other_base ct__law_other_base), sl__law_other_base⟩)
    (c__law_other_base : PySem.W.codeIn K cd__law_other_base "_law_other_base" = true)
    (k__law_other_base : PySem.W.keepIn K (.ref f__law_other_base) = true)
    (a__law_above : PySem.W.nsIn K mainGlobals "_law_above" = some (some (.ref f__law_above)))
    (l__law_above : K.lookup f__law_above = some ⟨oc__law_above, od__law_above, .func (PySem.W.fnOf "_law_above" "_law_above" (defArgs S__law_above) (defBody S__law_above) (defScope S__law_above) .none kV__law_above dc__law_above pm__law_above an__law_above cd__law_above ct__law_above), sl__law_above⟩)
    (c__law_above : PySem.W.codeIn K cd__law_above "_law_above" = true)
    (k__law_above : PySem.W.keepIn K (.ref f__law_above) = true)
    (a__law_whole : PySem.W.nsIn K mainGlobals "_law_whole" = some (some (.ref f__law_whole)))
    (l__law_whole : K.lookup f__law_whole = some ⟨oc__law_whole, od__law_whole, .func (PySem.W.fnOf "_law_whole" "_law_whole" (defArgs S__law_whole) (defBody S__law_whole) (defScope S__law_whole) .none kV__law_whole dc__law_whole pm__law_whole an__law_whole cd__law_whole ct__law_whole), sl__law_whole⟩)
    (c__law_whole : PySem.W.codeIn K cd__law_whole "_law_whole" = true)
    (k__law_whole : PySem.W.keepIn K (.ref f__law_whole) = true)
    (a__law_error : PySem.W.nsIn K mainGlobals "_law_error" = some (some (.ref f__law_error)))
    (l__law_error : K.lookup f__law_error = some ⟨oc__law_error, od__law_error, .func (PySem.W.fnOf "_law_error" "_law_error" (defArgs S__law_error) (defBody S__law_error) (defScope S__law_error) .none kV__law_error dc__law_error pm__law_error an__law_error cd__law_error ct__law_error), sl__law_error⟩)
    (c__law_error : PySem.W.codeIn K cd__law_error "_law_error" = true)
    (k__law_error : PySem.W.keepIn K (.ref f__law_error) = true)
    (a__law_told_rank : PySem.W.nsIn K mainGlobals "_law_told_rank" = some (some (.ref f__law_told_rank)))
    (l__law_told_rank : K.lookup f__law_told_rank = some ⟨oc__law_told_rank, od__law_told_rank, .func (PySem.W.fnOf "_law_told_rank" "_law_told_rank" (defArgs S__law_told_rank) (defBody S__law_told_rank) (defScope S__law_told_rank) .none kV__law_told_rank dc__law_told_rank pm__law_told_rank an__law_told_rank cd__law_told_rank ct__law_told_rank), sl__law_told_rank⟩)
    (c__law_told_rank : PySem.W.codeIn K cd__law_told_rank "_law_told_rank" = true)
    (k__law_told_rank : PySem.W.keepIn K (.ref f__law_told_rank) = true)
    (a__law_no_number : PySem.W.nsIn K mainGlobals "_law_no_number" = some (some (.ref f__law_no_number)))
    (l__law_no_number : K.lookup f__law_no_number = some ⟨oc__law_no_number, od__law_no_number, .func (PySem.W.fnOf "_law_no_number" "_law_no_number" (defArgs S__law_no_number) (defBody S__law_no_number) (defScope S__law_no_number) .none kV__law_no_number dc__law_no_number pm__law_no_number an__law_no_number cd__law_no_number ct__law_no_number), sl__law_no_number⟩)
    (c__law_no_number : PySem.W.codeIn K cd__law_no_number "_law_no_number" = true)
    (k__law_no_number : PySem.W.keepIn K (.ref f__law_no_number) = true)
    (a__law_both_ways : PySem.W.nsIn K mainGlobals "_law_both_ways" = some (some (.ref f__law_both_ways)))
    (l__law_both_ways : K.lookup f__law_both_ways = some ⟨oc__law_both_ways, od__law_both_ways, .func (PySem.W.fnOf "_law_both_ways" "_law_both_ways" (defArgs S__law_both_ways) (defBody S__law_both_ways) (defScope S__law_both_ways) .none kV__law_both_ways dc__law_both_ways pm__law_both_ways an__law_both_ways cd__law_both_ways ct__law_both_ways), sl__law_both_ways⟩)
    (c__law_both_ways : PySem.W.codeIn K cd__law_both_ways "_law_both_ways" = true)
    (k__law_both_ways : PySem.W.keepIn K (.ref f__law_both_ways) = true)
    (a__law_ranks_right : PySem.W.nsIn K mainGlobals "_law_ranks_right" = some (some (.ref f__law_ranks_right)))
    (l__law_ranks_right : K.lookup f__law_ranks_right = some ⟨oc__law_ranks_right, od__law_ranks_right, .func (PySem.W.fnOf "_law_ranks_right" "_law_ranks_right" (defArgs S__law_ranks_right) (defBody S__law_ranks_right) (defScope S__law_ranks_right) .none kV__law_ranks_right dc__law_ranks_right pm__law_ranks_right an__law_ranks_right cd__law_ranks_right ct__law_ranks_right), sl__law_ranks_right⟩)
    (c__law_ranks_right : PySem.W.codeIn K cd__law_ranks_right "_law_ranks_right" = true)
    (k__law_ranks_right : PySem.W.keepIn K (.ref f__law_ranks_right) = true)
    (a__law_refused_right : PySem.W.nsIn K mainGlobals "_law_refused_right" = some (some (.ref f__law_refused_right)))
    (l__law_refused_right : K.lookup f__law_refused_right = some ⟨oc__law_refused_right, od__law_refused_right, .func (PySem.W.fnOf "_law_refused_right" "_law_refused_right" (defArgs S__law_refused_right) (defBody S__law_refused_right) (defScope S__law_refused_right) .none kV__law_refused_right dc__law_refused_right pm__law_refused_right an__law_refused_right cd__law_refused_right ct__law_refused_right), sl__law_refused_right⟩)
    (c__law_refused_right : PySem.W.codeIn K cd__law_refused_right "_law_refused_right" = true)
    (k__law_refused_right : PySem.W.keepIn K (.ref f__law_refused_right) = true)
    (a__law_beyond_right : PySem.W.nsIn K mainGlobals "_law_beyond_right" = some (some (.ref f__law_beyond_right)))
    (l__law_beyond_right : K.lookup f__law_beyond_right = some ⟨oc__law_beyond_right, od__law_beyond_right, .func (PySem.W.fnOf "_law_beyond_right" "_law_beyond_right" (defArgs S__law_beyond_right) (defBody S__law_beyond_right) (defScope S__law_beyond_right) .none kV__law_beyond_right dc__law_beyond_right pm__law_beyond_right an__law_beyond_right cd__law_beyond_right ct__law_beyond_right), sl__law_beyond_right⟩)
    (c__law_beyond_right : PySem.W.codeIn K cd__law_beyond_right "_law_beyond_right" = true)
    (k__law_beyond_right : PySem.W.keepIn K (.ref f__law_beyond_right) = true)
    (a_law : PySem.W.nsIn K mainGlobals "law" = some (some (.ref f_law)))
    (l_law : K.lookup f_law = some ⟨oc_law, od_law, .func (PySem.W.fnOf "law" "law" (defArgs S_law) (defBody S_law) (defScope S_law) .none kV_law dc_law pm_law an_law cd_law ct_law), sl_law⟩)
    (c_law : PySem.W.codeIn K cd_law "law" = true)
    (k_law : PySem.W.keepIn K (.ref f_law) = true)
    (a_LostError : PySem.W.nsIn K mainGlobals "LostError" = some (some (.ref f_LostError)))
    (z_len : PySem.W.nsIn K mainGlobals "len" = some none)
    (z_int : PySem.W.nsIn K mainGlobals "int" = some none)
    (z_abs : PySem.W.nsIn K mainGlobals "abs" = some none)
    (z_isi : PySem.W.nsIn K mainGlobals "isinstance" = some none)
    (z_range : PySem.W.nsIn K mainGlobals "range" = some none)
    (z_boo : PySem.W.nsIn K mainGlobals "bool" = some none)
    (z_str : PySem.W.nsIn K mainGlobals "str" = some none)
    (z_lst : PySem.W.nsIn K mainGlobals "list" = some none)
    (z_tup : PySem.W.nsIn K mainGlobals "tuple" = some none)
    (z_max : PySem.W.nsIn K mainGlobals "max" = some none)
    (z_min : PySem.W.nsIn K mainGlobals "min" = some none)
    (z_zip : PySem.W.nsIn K mainGlobals "zip" = some none)
    (z_srt : PySem.W.nsIn K mainGlobals "sorted" = some none)
    (z_rev : PySem.W.nsIn K mainGlobals "reversed" = some none)
    (z_dm : PySem.W.nsIn K mainGlobals "divmod" = some none)
    (z_enu : PySem.W.nsIn K mainGlobals "enumerate" = some none)
    (z_sum : PySem.W.nsIn K mainGlobals "sum" = some none)
    (z_ve : PySem.W.nsIn K mainGlobals "ValueError" = some none)
    (x_hn : PySem.W.specialIn K (.builtin "object.__class__") "__get__" = some (some (.builtin "getset_descriptor.__get__")))
    (x_ht : PySem.W.takesIn K (.builtin "object.__class__") = some true)
    (x_op : PySem.W.nsIn K cStatics "thirdparty.any" = some none)
    (x_su : PySem.W.nsIn K mainGlobals "super" = some none)
    (a_BadBase : PySem.W.nsIn K mainGlobals "BadBase" = some (some (.ref f_BadBase)))
    (x_BadBase : K.lookup f_BadBase = some (excClassObj nm_BadBase q_BadBase f_BadBase N_BadBase bs_BadBase bm_BadBase true sn_BadBase sub_BadBase ab_BadBase col_BadBase dd_BadBase m0_BadBase m1_BadBase m2_BadBase m3_BadBase m5_BadBase "ValueError.__new__"))
    (rv_BadBase : PySem.HandSPX.refsVE bm_BadBase = true)
    (sa_BadBase : PySem.W.findIn K (.ref f_BadBase) "__setattr__" = some (some (.builtin "object.__setattr__")))
    (ga_BadBase : PySem.W.findIn K (.ref f_BadBase) "__getattribute__" = some (some (.builtin "BaseException.__getattribute__")))
    (gg_BadBase : PySem.W.findIn K (.ref f_BadBase) "__getattr__" = some none)
    (ha_BadBase : PySem.W.findIn K (.ref f_BadBase) "__class__" = some (some (.builtin "object.__class__")))
    (hm_BadBase : PySem.W.mroIn K f_BadBase (.type "object") = some true)
    (ms_BadBase : PySem.W.mroIn K f_BadBase (.ref f_BadBase) = some true)
    (eC_BadBase : PySem.W.subIn K (.ref f_BadBase) (.type "BaseException") = some true)
    (sV_BadBase : PySem.W.subIn K (.ref f_BadBase) (.type "ValueError") = some true)
    (tC_BadBase : PySem.W.typeIn K (.ref f_BadBase) = some (.type "type"))
    (kC_BadBase : PySem.W.keepIn K (.ref f_BadBase) = true)
    (hd_BadBase : PySem.W.hasDictIn K f_BadBase = true)
    (ii_BadBase : PySem.W.findIn K (.ref f_BadBase) "__init__" = some (some (.ref i_BadBase)))
    (ti_BadBase : PySem.W.typeIn K (.ref i_BadBase) = some (.type "function"))
    (li_BadBase : K.lookup i_BadBase = some ⟨oc_BadBase, od_BadBase, .func (PySem.W.ksFn "__init__" "BadBase.__init__" (defArgs S_BadBase___init__) (defBody S_BadBase___init__) (defScope S_BadBase___init__) .none kV_BadBase dc_BadBase pm_BadBase an_BadBase (.ref cda_BadBase) ct_BadBase cc_BadBase), sl_BadBase⟩)
    (ci_BadBase : PySem.W.codeIn K (.ref cda_BadBase) "BadBase.__init__" = true)
    (lc_BadBase : K.lookup cda_BadBase = some ⟨ccl_BadBase, ccd_BadBase, .fields vs_BadBase, ccs_BadBase⟩)
    (v2_BadBase : vs_BadBase[2]? = some (.str fl_BadBase tf_BadBase))
    (fe_BadBase : ((PySem.Challenge.pw_lostpart_k72_rank_and_number).main.file == fl_BadBase) = true)
    (lk_BadBase : K.lookup cc_BadBase = some ⟨cl_BadBase, cld_BadBase, .cell (some (.ref f_BadBase)), csl_BadBase⟩)
    (su_BadBase : PySem.W.ks_superIn K f_BadBase f_BadBase "__init__" = some (some (.builtin "ValueError.__init__")))
    (n_base_BadBase : PySem.W.findIn K (.ref f_BadBase) "base" = some none)
    (a_BadGrid : PySem.W.nsIn K mainGlobals "BadGrid" = some (some (.ref f_BadGrid)))
    (x_BadGrid : K.lookup f_BadGrid = some (excClassObj nm_BadGrid q_BadGrid f_BadGrid N_BadGrid bs_BadGrid bm_BadGrid true sn_BadGrid sub_BadGrid ab_BadGrid col_BadGrid dd_BadGrid m0_BadGrid m1_BadGrid m2_BadGrid m3_BadGrid m5_BadGrid "ValueError.__new__"))
    (rv_BadGrid : PySem.HandSPX.refsVE bm_BadGrid = true)
    (sa_BadGrid : PySem.W.findIn K (.ref f_BadGrid) "__setattr__" = some (some (.builtin "object.__setattr__")))
    (ga_BadGrid : PySem.W.findIn K (.ref f_BadGrid) "__getattribute__" = some (some (.builtin "BaseException.__getattribute__")))
    (gg_BadGrid : PySem.W.findIn K (.ref f_BadGrid) "__getattr__" = some none)
    (ha_BadGrid : PySem.W.findIn K (.ref f_BadGrid) "__class__" = some (some (.builtin "object.__class__")))
    (hm_BadGrid : PySem.W.mroIn K f_BadGrid (.type "object") = some true)
    (ms_BadGrid : PySem.W.mroIn K f_BadGrid (.ref f_BadGrid) = some true)
    (eC_BadGrid : PySem.W.subIn K (.ref f_BadGrid) (.type "BaseException") = some true)
    (sV_BadGrid : PySem.W.subIn K (.ref f_BadGrid) (.type "ValueError") = some true)
    (tC_BadGrid : PySem.W.typeIn K (.ref f_BadGrid) = some (.type "type"))
    (kC_BadGrid : PySem.W.keepIn K (.ref f_BadGrid) = true)
    (hd_BadGrid : PySem.W.hasDictIn K f_BadGrid = true)
    (ii_BadGrid : PySem.W.findIn K (.ref f_BadGrid) "__init__" = some (some (.ref i_BadGrid)))
    (ti_BadGrid : PySem.W.typeIn K (.ref i_BadGrid) = some (.type "function"))
    (li_BadGrid : K.lookup i_BadGrid = some ⟨oc_BadGrid, od_BadGrid, .func (PySem.W.ksFn "__init__" "BadGrid.__init__" (defArgs S_BadGrid___init__) (defBody S_BadGrid___init__) (defScope S_BadGrid___init__) .none kV_BadGrid dc_BadGrid pm_BadGrid an_BadGrid (.ref cda_BadGrid) ct_BadGrid cc_BadGrid), sl_BadGrid⟩)
    (ci_BadGrid : PySem.W.codeIn K (.ref cda_BadGrid) "BadGrid.__init__" = true)
    (lc_BadGrid : K.lookup cda_BadGrid = some ⟨ccl_BadGrid, ccd_BadGrid, .fields vs_BadGrid, ccs_BadGrid⟩)
    (v2_BadGrid : vs_BadGrid[2]? = some (.str fl_BadGrid tf_BadGrid))
    (fe_BadGrid : ((PySem.Challenge.pw_lostpart_k72_rank_and_number).main.file == fl_BadGrid) = true)
    (lk_BadGrid : K.lookup cc_BadGrid = some ⟨cl_BadGrid, cld_BadGrid, .cell (some (.ref f_BadGrid)), csl_BadGrid⟩)
    (su_BadGrid : PySem.W.ks_superIn K f_BadGrid f_BadGrid "__init__" = some (some (.builtin "ValueError.__init__")))
    (n_what_BadGrid : PySem.W.findIn K (.ref f_BadGrid) "what" = some none)
    (a_MixedBases : PySem.W.nsIn K mainGlobals "MixedBases" = some (some (.ref f_MixedBases)))
    (x_MixedBases : K.lookup f_MixedBases = some (excClassObj nm_MixedBases q_MixedBases f_MixedBases N_MixedBases bs_MixedBases bm_MixedBases true sn_MixedBases sub_MixedBases ab_MixedBases col_MixedBases dd_MixedBases m0_MixedBases m1_MixedBases m2_MixedBases m3_MixedBases m5_MixedBases "ValueError.__new__"))
    (rv_MixedBases : PySem.HandSPX.refsVE bm_MixedBases = true)
    (sa_MixedBases : PySem.W.findIn K (.ref f_MixedBases) "__setattr__" = some (some (.builtin "object.__setattr__")))
    (ga_MixedBases : PySem.W.findIn K (.ref f_MixedBases) "__getattribute__" = some (some (.builtin "BaseException.__getattribute__")))
    (gg_MixedBases : PySem.W.findIn K (.ref f_MixedBases) "__getattr__" = some none)
    (ha_MixedBases : PySem.W.findIn K (.ref f_MixedBases) "__class__" = some (some (.builtin "object.__class__")))
    (hm_MixedBases : PySem.W.mroIn K f_MixedBases (.type "object") = some true)
    (ms_MixedBases : PySem.W.mroIn K f_MixedBases (.ref f_MixedBases) = some true)
    (eC_MixedBases : PySem.W.subIn K (.ref f_MixedBases) (.type "BaseException") = some true)
    (sV_MixedBases : PySem.W.subIn K (.ref f_MixedBases) (.type "ValueError") = some true)
    (tC_MixedBases : PySem.W.typeIn K (.ref f_MixedBases) = some (.type "type"))
    (kC_MixedBases : PySem.W.keepIn K (.ref f_MixedBases) = true)
    (hd_MixedBases : PySem.W.hasDictIn K f_MixedBases = true)
    (ii_MixedBases : PySem.W.findIn K (.ref f_MixedBases) "__init__" = some (some (.ref i_MixedBases)))
    (ti_MixedBases : PySem.W.typeIn K (.ref i_MixedBases) = some (.type "function"))
    (li_MixedBases : K.lookup i_MixedBases = some ⟨oc_MixedBases, od_MixedBases, .func (PySem.W.ksFn "__init__" "MixedBases.__init__" (defArgs S_MixedBases___init__) (defBody S_MixedBases___init__) (defScope S_MixedBases___init__) .none kV_MixedBases dc_MixedBases pm_MixedBases an_MixedBases (.ref cda_MixedBases) ct_MixedBases cc_MixedBases), sl_MixedBases⟩)
    (ci_MixedBases : PySem.W.codeIn K (.ref cda_MixedBases) "MixedBases.__init__" = true)
    (lc_MixedBases : K.lookup cda_MixedBases = some ⟨ccl_MixedBases, ccd_MixedBases, .fields vs_MixedBases, ccs_MixedBases⟩)
    (v2_MixedBases : vs_MixedBases[2]? = some (.str fl_MixedBases tf_MixedBases))
    (fe_MixedBases : ((PySem.Challenge.pw_lostpart_k72_rank_and_number).main.file == fl_MixedBases) = true)
    (lk_MixedBases : K.lookup cc_MixedBases = some ⟨cl_MixedBases, cld_MixedBases, .cell (some (.ref f_MixedBases)), csl_MixedBases⟩)
    (su_MixedBases : PySem.W.ks_superIn K f_MixedBases f_MixedBases "__init__" = some (some (.builtin "ValueError.__init__")))
    (n_left_MixedBases : PySem.W.findIn K (.ref f_MixedBases) "left" = some none)
    (n_right_MixedBases : PySem.W.findIn K (.ref f_MixedBases) "right" = some none)
    (a_NotANumber : PySem.W.nsIn K mainGlobals "NotANumber" = some (some (.ref f_NotANumber)))
    (x_NotANumber : K.lookup f_NotANumber = some (excClassObj nm_NotANumber q_NotANumber f_NotANumber N_NotANumber bs_NotANumber bm_NotANumber true sn_NotANumber sub_NotANumber ab_NotANumber col_NotANumber dd_NotANumber m0_NotANumber m1_NotANumber m2_NotANumber m3_NotANumber m5_NotANumber "ValueError.__new__"))
    (rv_NotANumber : PySem.HandSPX.refsVE bm_NotANumber = true)
    (sa_NotANumber : PySem.W.findIn K (.ref f_NotANumber) "__setattr__" = some (some (.builtin "object.__setattr__")))
    (ga_NotANumber : PySem.W.findIn K (.ref f_NotANumber) "__getattribute__" = some (some (.builtin "BaseException.__getattribute__")))
    (gg_NotANumber : PySem.W.findIn K (.ref f_NotANumber) "__getattr__" = some none)
    (ha_NotANumber : PySem.W.findIn K (.ref f_NotANumber) "__class__" = some (some (.builtin "object.__class__")))
    (hm_NotANumber : PySem.W.mroIn K f_NotANumber (.type "object") = some true)
    (ms_NotANumber : PySem.W.mroIn K f_NotANumber (.ref f_NotANumber) = some true)
    (eC_NotANumber : PySem.W.subIn K (.ref f_NotANumber) (.type "BaseException") = some true)
    (sV_NotANumber : PySem.W.subIn K (.ref f_NotANumber) (.type "ValueError") = some true)
    (tC_NotANumber : PySem.W.typeIn K (.ref f_NotANumber) = some (.type "type"))
    (kC_NotANumber : PySem.W.keepIn K (.ref f_NotANumber) = true)
    (hd_NotANumber : PySem.W.hasDictIn K f_NotANumber = true)
    (ii_NotANumber : PySem.W.findIn K (.ref f_NotANumber) "__init__" = some (some (.ref i_NotANumber)))
    (ti_NotANumber : PySem.W.typeIn K (.ref i_NotANumber) = some (.type "function"))
    (li_NotANumber : K.lookup i_NotANumber = some ⟨oc_NotANumber, od_NotANumber, .func (PySem.W.ksFn "__init__" "NotANumber.__init__" (defArgs S_NotANumber___init__) (defBody S_NotANumber___init__) (defScope S_NotANumber___init__) .none kV_NotANumber dc_NotANumber pm_NotANumber an_NotANumber (.ref cda_NotANumber) ct_NotANumber cc_NotANumber), sl_NotANumber⟩)
    (ci_NotANumber : PySem.W.codeIn K (.ref cda_NotANumber) "NotANumber.__init__" = true)
    (lc_NotANumber : K.lookup cda_NotANumber = some ⟨ccl_NotANumber, ccd_NotANumber, .fields vs_NotANumber, ccs_NotANumber⟩)
    (v2_NotANumber : vs_NotANumber[2]? = some (.str fl_NotANumber tf_NotANumber))
    (fe_NotANumber : ((PySem.Challenge.pw_lostpart_k72_rank_and_number).main.file == fl_NotANumber) = true)
    (lk_NotANumber : K.lookup cc_NotANumber = some ⟨cl_NotANumber, cld_NotANumber, .cell (some (.ref f_NotANumber)), csl_NotANumber⟩)
    (su_NotANumber : PySem.W.ks_superIn K f_NotANumber f_NotANumber "__init__" = some (some (.builtin "ValueError.__init__")))
    (n_value_NotANumber : PySem.W.findIn K (.ref f_NotANumber) "value" = some none)
    (a_NoRank : PySem.W.nsIn K mainGlobals "NoRank" = some (some (.ref f_NoRank)))
    (x_NoRank : K.lookup f_NoRank = some (excClassObj nm_NoRank q_NoRank f_NoRank N_NoRank bs_NoRank bm_NoRank true sn_NoRank sub_NoRank ab_NoRank col_NoRank dd_NoRank m0_NoRank m1_NoRank m2_NoRank m3_NoRank m5_NoRank "ValueError.__new__"))
    (rv_NoRank : PySem.HandSPX.refsVE bm_NoRank = true)
    (sa_NoRank : PySem.W.findIn K (.ref f_NoRank) "__setattr__" = some (some (.builtin "object.__setattr__")))
    (ga_NoRank : PySem.W.findIn K (.ref f_NoRank) "__getattribute__" = some (some (.builtin "BaseException.__getattribute__")))
    (gg_NoRank : PySem.W.findIn K (.ref f_NoRank) "__getattr__" = some none)
    (ha_NoRank : PySem.W.findIn K (.ref f_NoRank) "__class__" = some (some (.builtin "object.__class__")))
    (hm_NoRank : PySem.W.mroIn K f_NoRank (.type "object") = some true)
    (ms_NoRank : PySem.W.mroIn K f_NoRank (.ref f_NoRank) = some true)
    (eC_NoRank : PySem.W.subIn K (.ref f_NoRank) (.type "BaseException") = some true)
    (sV_NoRank : PySem.W.subIn K (.ref f_NoRank) (.type "ValueError") = some true)
    (tC_NoRank : PySem.W.typeIn K (.ref f_NoRank) = some (.type "type"))
    (kC_NoRank : PySem.W.keepIn K (.ref f_NoRank) = true)
    (hd_NoRank : PySem.W.hasDictIn K f_NoRank = true)
    (ii_NoRank : PySem.W.findIn K (.ref f_NoRank) "__init__" = some (some (.ref i_NoRank)))
    (ti_NoRank : PySem.W.typeIn K (.ref i_NoRank) = some (.type "function"))
    (li_NoRank : K.lookup i_NoRank = some ⟨oc_NoRank, od_NoRank, .func (PySem.W.ksFn "__init__" "NoRank.__init__" (defArgs S_NoRank___init__) (defBody S_NoRank___init__) (defScope S_NoRank___init__) .none kV_NoRank dc_NoRank pm_NoRank an_NoRank (.ref cda_NoRank) ct_NoRank cc_NoRank), sl_NoRank⟩)
    (ci_NoRank : PySem.W.codeIn K (.ref cda_NoRank) "NoRank.__init__" = true)
    (lc_NoRank : K.lookup cda_NoRank = some ⟨ccl_NoRank, ccd_NoRank, .fields vs_NoRank, ccs_NoRank⟩)
    (v2_NoRank : vs_NoRank[2]? = some (.str fl_NoRank tf_NoRank))
    (fe_NoRank : ((PySem.Challenge.pw_lostpart_k72_rank_and_number).main.file == fl_NoRank) = true)
    (lk_NoRank : K.lookup cc_NoRank = some ⟨cl_NoRank, cld_NoRank, .cell (some (.ref f_NoRank)), csl_NoRank⟩)
    (su_NoRank : PySem.W.ks_superIn K f_NoRank f_NoRank "__init__" = some (some (.builtin "ValueError.__init__")))
    (n_rank_NoRank : PySem.W.findIn K (.ref f_NoRank) "rank" = some none)
    (m_BadGrid_LostError : PySem.W.exmOne K (.ref f_BadGrid) (.ref f_LostError) = some true)
    (m_MixedBases_LostError : PySem.W.exmOne K (.ref f_MixedBases) (.ref f_LostError) = some true)
    (m_NotANumber_LostError : PySem.W.exmOne K (.ref f_NotANumber) (.ref f_LostError) = some true)
    (m_NoRank_LostError : PySem.W.exmOne K (.ref f_NoRank) (.ref f_LostError) = some true)
    (j_BadGrid_BadGrid : PySem.W.kitOne K (.ref f_BadGrid) (.ref f_BadGrid) = some true)
    (j_BadGrid_MixedBases : PySem.W.kitOne K (.ref f_BadGrid) (.ref f_MixedBases) = some false)
    (j_BadGrid_NotANumber : PySem.W.kitOne K (.ref f_BadGrid) (.ref f_NotANumber) = some false)
    (j_BadGrid_NoRank : PySem.W.kitOne K (.ref f_BadGrid) (.ref f_NoRank) = some false)
    (j_MixedBases_BadGrid : PySem.W.kitOne K (.ref f_MixedBases) (.ref f_BadGrid) = some false)
    (j_MixedBases_MixedBases : PySem.W.kitOne K (.ref f_MixedBases) (.ref f_MixedBases) = some true)
    (j_MixedBases_NotANumber : PySem.W.kitOne K (.ref f_MixedBases) (.ref f_NotANumber) = some false)
    (j_MixedBases_NoRank : PySem.W.kitOne K (.ref f_MixedBases) (.ref f_NoRank) = some false)
    (j_NotANumber_BadGrid : PySem.W.kitOne K (.ref f_NotANumber) (.ref f_BadGrid) = some false)
    (j_NotANumber_MixedBases : PySem.W.kitOne K (.ref f_NotANumber) (.ref f_MixedBases) = some false)
    (j_NotANumber_NotANumber : PySem.W.kitOne K (.ref f_NotANumber) (.ref f_NotANumber) = some true)
    (j_NotANumber_NoRank : PySem.W.kitOne K (.ref f_NotANumber) (.ref f_NoRank) = some false)
    (j_NoRank_BadGrid : PySem.W.kitOne K (.ref f_NoRank) (.ref f_BadGrid) = some false)
    (j_NoRank_MixedBases : PySem.W.kitOne K (.ref f_NoRank) (.ref f_MixedBases) = some false)
    (j_NoRank_NotANumber : PySem.W.kitOne K (.ref f_NoRank) (.ref f_NotANumber) = some false)
    (j_NoRank_NoRank : PySem.W.kitOne K (.ref f_NoRank) (.ref f_NoRank) = some true)
    : ∃ fd : FuncData, (∀ (s : Shared) (v : Value), BindsTo s fd ⟨[v], []⟩ [("script", v)]) ∧ ∀ base : Heap, K.In base → base.Ns mainGlobals mg → FnOk PySem.Challenge.pw_lostpart_k72_rank_and_number w K mg base (L2N.CX PySem.Challenge.pw_lostpart_k72_rank_and_number w) 14 fa fd ["script"] (spLaw K) := by
  have e := hfa.symm.trans (PySem.W.mg_of X G a_law)
  cases e
  have g_Exact := PySem.W.mg_of X G a_Exact
  have Cl_Exact : Cls K f_Exact := ⟨pg_Exact, hd_Exact, po_Exact, sa_Exact⟩
  have I_Exact : ClsI K f_Exact := ⟨Cl_Exact, ha_Exact, x_hn, x_ht, hm_Exact⟩
  have M_Exact : L2.Mk K f_Exact f_Exact___init__ := ⟨mk_Exact, ii_Exact, fi_Exact, kc_Exact⟩
  have Me_Exact___abs__ : Meth K f_Exact "__abs__" f_Exact___abs__ := ⟨at___abs___Exact, if___abs___Exact, k_Exact___abs__⟩
  have Me_Exact___gt__ : Meth K f_Exact "__gt__" f_Exact___gt__ := ⟨at___gt___Exact, if___gt___Exact, k_Exact___gt__⟩
  have g_Grid := PySem.W.mg_of X G a_Grid
  have Cl_Grid : Cls K f_Grid := ⟨pg_Grid, hd_Grid, po_Grid, sa_Grid⟩
  have I_Grid : ClsI K f_Grid := ⟨Cl_Grid, ha_Grid, x_hn, x_ht, hm_Grid⟩
  have M_Grid : L2.Mk K f_Grid f_Grid___init__ := ⟨mk_Grid, ii_Grid, fi_Grid, kc_Grid⟩
  have Rd_Grid : ClX.CRead K f_Grid mc_Grid := ⟨rd_Grid, rg_Grid⟩
  have Cv_Grid_LEAST : ClX.CVal K f_Grid mc_Grid "LEAST" (.int 3) cu_Grid_LEAST := ⟨cv_LEAST_Grid, cr_LEAST_Grid⟩
  have Cv_Grid_MOST : ClX.CVal K f_Grid mc_Grid "MOST" (.int 200) cu_Grid_MOST := ⟨cv_MOST_Grid, cr_MOST_Grid⟩
  have Me_Grid___contains__ : Meth K f_Grid "__contains__" f_Grid___contains__ := ⟨at___contains___Grid, if___contains___Grid, k_Grid___contains__⟩
  have Me_Grid_unit : Meth K f_Grid "unit" f_Grid_unit := ⟨at_unit_Grid, if_unit_Grid, k_Grid_unit⟩
  have Pr_Exact_sign : PropOf K f_Exact "sign" p_Exact_sign f_Exact_sign := ⟨pat_Exact_sign, pge_Exact_sign, pta_Exact_sign, ⟨_, prc_Exact_sign⟩⟩
  have Pr_Exact_digits : PropOf K f_Exact "digits" p_Exact_digits f_Exact_digits := ⟨pat_Exact_digits, pge_Exact_digits, pta_Exact_digits, ⟨_, prc_Exact_digits⟩⟩
  have Pr_Exact_place : PropOf K f_Exact "place" p_Exact_place f_Exact_place := ⟨pat_Exact_place, pge_Exact_place, pta_Exact_place, ⟨_, prc_Exact_place⟩⟩
  have Pr_Grid_greatest : PropOf K f_Grid "greatest" p_Grid_greatest f_Grid_greatest := ⟨pat_Grid_greatest, pge_Grid_greatest, pta_Grid_greatest, ⟨_, prc_Grid_greatest⟩⟩
  have F_Exact___init__ : FunD K "__init__" "Exact.__init__" (defArgs S_Exact___init__) (defBody S_Exact___init__) (defScope S_Exact___init__) [.int 0] [] f_Exact___init__ _ := ⟨⟨_, _, _, _, _, _, _, _, _, _, rfl, l_Exact___init__, c_Exact___init__, .inr ⟨by simp, T_Exact___init__, _, itT_Exact___init__.toList, _, rfl, lT_Exact___init__, rfl, vT_Exact___init__⟩, .inl rfl⟩, k_Exact___init__⟩
  have b3_Exact___init__ := FunD.binds1 (ps := ["self", "base", "coefficient", "exponent"]) F_Exact___init__ 3 0 (by simp) rfl fun T kV doc pm an cdv ct us its hl hi => match us, hl, its, hi with | [_, _, _], _, [_], _ => ⟨_, rfl, rfl⟩
  have b4_Exact___init__ := FunD.binds1 (ps := ["self", "base", "coefficient", "exponent"]) F_Exact___init__ 4 1 (by simp) rfl fun T kV doc pm an cdv ct us its hl hi => match us, hl, its, hi with | [_, _, _, _], _, [_], _ => ⟨_, rfl, rfl⟩
  have b_Exact___init__ := binds_all b4_Exact___init__
  have F_Exact___abs__ := fun_mk (st := S_Exact___abs__) l_Exact___abs__ c_Exact___abs__ k_Exact___abs__
  have b_Exact___abs__ := F_Exact___abs__.binds (ps := ["self"]) fun _ _ _ _ _ _ us hl => match us, hl with | [_], _ => rfl
  have F_Exact___gt__ := fun_mk (st := S_Exact___gt__) l_Exact___gt__ c_Exact___gt__ k_Exact___gt__
  have b_Exact___gt__ := F_Exact___gt__.binds (ps := ["self", "other"]) fun _ _ _ _ _ _ us hl => match us, hl with | [_, _], _ => rfl
  have F_Exact_sign := fun_mk (st := S_Exact_sign) l_Exact_sign c_Exact_sign k_Exact_sign
  have b_Exact_sign := F_Exact_sign.binds (ps := ["self"]) fun _ _ _ _ _ _ us hl => match us, hl with | [_], _ => rfl
  have F_Exact_digits := fun_mk (st := S_Exact_digits) l_Exact_digits c_Exact_digits k_Exact_digits
  have b_Exact_digits := F_Exact_digits.binds (ps := ["self"]) fun _ _ _ _ _ _ us hl => match us, hl with | [_], _ => rfl
  have F_Exact_place := fun_mk (st := S_Exact_place) l_Exact_place c_Exact_place k_Exact_place
  have b_Exact_place := F_Exact_place.binds (ps := ["self"]) fun _ _ _ _ _ _ us hl => match us, hl with | [_], _ => rfl
  have F_Grid___init__ : FunD K "__init__" "Grid.__init__" (defArgs S_Grid___init__) (defBody S_Grid___init__) (defScope S_Grid___init__) [] [("bottom", .non), ("top", .non)] f_Grid___init__ _ := ⟨⟨_, _, _, _, _, _, _, _, _, _, rfl, l_Grid___init__, c_Grid___init__, .inl ⟨rfl, rfl⟩, .inr ⟨_, rfl, (by intro q hq; simp only [List.mem_cons, List.not_mem_nil, or_false] at hq; rcases hq with rfl | rfl; exact ⟨_, kd0_Grid___init__, kr0_Grid___init__⟩; exact ⟨_, kd1_Grid___init__, kr1_Grid___init__⟩)⟩⟩, k_Grid___init__⟩
  have F_Grid___contains__ := fun_mk (st := S_Grid___contains__) l_Grid___contains__ c_Grid___contains__ k_Grid___contains__
  have b_Grid___contains__ := F_Grid___contains__.binds (ps := ["self", "value"]) fun _ _ _ _ _ _ us hl => match us, hl with | [_, _], _ => rfl
  have F_Grid_unit := fun_mk (st := S_Grid_unit) l_Grid_unit c_Grid_unit k_Grid_unit
  have b_Grid_unit := F_Grid_unit.binds (ps := ["self", "value"]) fun _ _ _ _ _ _ us hl => match us, hl with | [_, _], _ => rfl
  have F_Grid_greatest := fun_mk (st := S_Grid_greatest) l_Grid_greatest c_Grid_greatest k_Grid_greatest
  have b_Grid_greatest := F_Grid_greatest.binds (ps := ["self"]) fun _ _ _ _ _ _ us hl => match us, hl with | [_], _ => rfl
  have F_power := fun_mk (st := S_power) l_power c_power k_power
  have b_power := F_power.binds (ps := ["base", "count"]) fun _ _ _ _ _ _ us hl => match us, hl with | [_, _], _ => rfl
  have g_power := PySem.W.mg_of X G a_power
  have F_squares_up_to := fun_mk (st := S_squares_up_to) l_squares_up_to c_squares_up_to k_squares_up_to
  have b_squares_up_to := F_squares_up_to.binds (ps := ["base", "size"]) fun _ _ _ _ _ _ us hl => match us, hl with | [_, _], _ => rfl
  have g_squares_up_to := PySem.W.mg_of X G a_squares_up_to
  have F_count_digits := fun_mk (st := S_count_digits) l_count_digits c_count_digits k_count_digits
  have b_count_digits := F_count_digits.binds (ps := ["base", "coefficient"]) fun _ _ _ _ _ _ us hl => match us, hl with | [_, _], _ => rfl
  have g_count_digits := PySem.W.mg_of X G a_count_digits
  have F_without_zeros := fun_mk (st := S_without_zeros) l_without_zeros c_without_zeros k_without_zeros
  have b_without_zeros := F_without_zeros.binds (ps := ["base", "coefficient"]) fun _ _ _ _ _ _ us hl => match us, hl with | [_, _], _ => rfl
  have g_without_zeros := PySem.W.mg_of X G a_without_zeros
  have F_check_base := fun_mk (st := S_check_base) l_check_base c_check_base k_check_base
  have b_check_base := F_check_base.binds (ps := ["base"]) fun _ _ _ _ _ _ us hl => match us, hl with | [_], _ => rfl
  have g_check_base := PySem.W.mg_of X G a_check_base
  have F_aligned := fun_mk (st := S_aligned) l_aligned c_aligned k_aligned
  have b_aligned := F_aligned.binds (ps := ["left", "right"]) fun _ _ _ _ _ _ us hl => match us, hl with | [_, _], _ => rfl
  have g_aligned := PySem.W.mg_of X G a_aligned
  have F_compared := fun_mk (st := S_compared) l_compared c_compared k_compared
  have b_compared := F_compared.binds (ps := ["left", "right"]) fun _ _ _ _ _ _ us hl => match us, hl with | [_, _], _ => rfl
  have g_compared := PySem.W.mg_of X G a_compared
  have F_check_same_base := fun_mk (st := S_check_same_base) l_check_same_base c_check_same_base k_check_same_base
  have b_check_same_base := F_check_same_base.binds (ps := ["grid", "value"]) fun _ _ _ _ _ _ us hl => match us, hl with | [_, _], _ => rfl
  have g_check_same_base := PySem.W.mg_of X G a_check_same_base
  have F_check_number := fun_mk (st := S_check_number) l_check_number c_check_number k_check_number
  have b_check_number := F_check_number.binds (ps := ["grid", "value"]) fun _ _ _ _ _ _ us hl => match us, hl with | [_, _], _ => rfl
  have g_check_number := PySem.W.mg_of X G a_check_number
  have F_beyond := fun_mk (st := S_beyond) l_beyond c_beyond k_beyond
  have b_beyond := F_beyond.binds (ps := ["grid", "value"]) fun _ _ _ _ _ _ us hl => match us, hl with | [_, _], _ => rfl
  have g_beyond := PySem.W.mg_of X G a_beyond
  have F_check_bottom := fun_mk (st := S_check_bottom) l_check_bottom c_check_bottom k_check_bottom
  have b_check_bottom := F_check_bottom.binds (ps := ["grid"]) fun _ _ _ _ _ _ us hl => match us, hl with | [_], _ => rfl
  have g_check_bottom := PySem.W.mg_of X G a_check_bottom
  have F_numbers_in_place := fun_mk (st := S_numbers_in_place) l_numbers_in_place c_numbers_in_place k_numbers_in_place
  have b_numbers_in_place := F_numbers_in_place.binds (ps := ["grid"]) fun _ _ _ _ _ _ us hl => match us, hl with | [_], _ => rfl
  have g_numbers_in_place := PySem.W.mg_of X G a_numbers_in_place
  have F_rank_of := fun_mk (st := S_rank_of) l_rank_of c_rank_of k_rank_of
  have b_rank_of := F_rank_of.binds (ps := ["grid", "value"]) fun _ _ _ _ _ _ us hl => match us, hl with | [_, _], _ => rfl
  have g_rank_of := PySem.W.mg_of X G a_rank_of
  have F_number_at := fun_mk (st := S_number_at) l_number_at c_number_at k_number_at
  have b_number_at := F_number_at.binds (ps := ["grid", "rank"]) fun _ _ _ _ _ _ us hl => match us, hl with | [_, _], _ => rfl
  have g_number_at := PySem.W.mg_of X G a_number_at
  have F__law_source := fun_mk (st := S__law_source) l__law_source c__law_source k__law_source
  have b__law_source := F__law_source.binds (ps := ["script"]) fun _ _ _ _ _ _ us hl => match us, hl with | [_], _ => rfl
  have g__law_source := PySem.W.mg_of X G a__law_source
  have F__law_draw := fun_mk (st := S__law_draw) l__law_draw c__law_draw k__law_draw
  have b__law_draw := F__law_draw.binds (ps := ["source", "many"]) fun _ _ _ _ _ _ us hl => match us, hl with | [_, _], _ => rfl
  have g__law_draw := PySem.W.mg_of X G a__law_draw
  have F__law_base := fun_mk (st := S__law_base) l__law_base c__law_base k__law_base
  have b__law_base := F__law_base.binds (ps := ["source"]) fun _ _ _ _ _ _ us hl => match us, hl with | [_], _ => rfl
  have g__law_base := PySem.W.mg_of X G a__law_base
  have F__law_precision := fun_mk (st := S__law_precision) l__law_precision c__law_precision k__law_precision
  have b__law_precision := F__law_precision.binds (ps := ["source", "most"]) fun _ _ _ _ _ _ us hl => match us, hl with | [_, _], _ => rfl
  have g__law_precision := PySem.W.mg_of X G a__law_precision
  have F__law_power := fun_mk (st := S__law_power) l__law_power c__law_power k__law_power
  have b__law_power := F__law_power.binds (ps := ["base", "count"]) fun _ _ _ _ _ _ us hl => match us, hl with | [_, _], _ => rfl
  have g__law_power := PySem.W.mg_of X G a__law_power
  have F__law_lowest := fun_mk (st := S__law_lowest) l__law_lowest c__law_lowest k__law_lowest
  have b__law_lowest := F__law_lowest.binds (ps := ["base", "coefficient", "exponent"]) fun _ _ _ _ _ _ us hl => match us, hl with | [_, _, _], _ => rfl
  have g__law_lowest := PySem.W.mg_of X G a__law_lowest
  have F__law_full := fun_mk (st := S__law_full) l__law_full c__law_full k__law_full
  have b__law_full := F__law_full.binds (ps := ["source", "base", "precision"]) fun _ _ _ _ _ _ us hl => match us, hl with | [_, _, _], _ => rfl
  have g__law_full := PySem.W.mg_of X G a__law_full
  have F__law_small := fun_mk (st := S__law_small) l__law_small c__law_small k__law_small
  have b__law_small := F__law_small.binds (ps := ["source"]) fun _ _ _ _ _ _ us hl => match us, hl with | [_], _ => rfl
  have g__law_small := PySem.W.mg_of X G a__law_small
  have F__law_equal := fun_mk (st := S__law_equal) l__law_equal c__law_equal k__law_equal
  have b__law_equal := F__law_equal.binds (ps := ["actual", "expected"]) fun _ _ _ _ _ _ us hl => match us, hl with | [_, _], _ => rfl
  have g__law_equal := PySem.W.mg_of X G a__law_equal
  have F__law_make := fun_mk (st := S__law_make) l__law_make c__law_make k__law_make
  have b__law_make := F__law_make.binds (ps := ["base", "x"]) fun _ _ _ _ _ _ us hl => match us, hl with | [_, _], _ => rfl
  have g__law_make := PySem.W.mg_of X G a__law_make
  have F__law_is := fun_mk (st := S__law_is) l__law_is c__law_is k__law_is
  have b__law_is := F__law_is.binds (ps := ["value", "base", "x"]) fun _ _ _ _ _ _ us hl => match us, hl with | [_, _, _], _ => rfl
  have g__law_is := PySem.W.mg_of X G a__law_is
  have F__law_other_base := fun_mk (st := S__law_other_base) l__law_other_base c__law_other_base k__law_other_base
  have b__law_other_base := F__law_other_base.binds (ps := ["source", "base"]) fun _ _ _ _ _ _ us hl => match us, hl with | [_, _], _ => rfl
  have g__law_other_base := PySem.W.mg_of X G a__law_other_base
  have F__law_above := fun_mk (st := S__law_above) l__law_above c__law_above k__law_above
  have b__law_above := F__law_above.binds (ps := ["source", "room"]) fun _ _ _ _ _ _ us hl => match us, hl with | [_, _], _ => rfl
  have g__law_above := PySem.W.mg_of X G a__law_above
  have F__law_whole := fun_mk (st := S__law_whole) l__law_whole c__law_whole k__law_whole
  have b__law_whole := F__law_whole.binds (ps := ["source", "base", "precision", "above"]) fun _ _ _ _ _ _ us hl => match us, hl with | [_, _, _, _], _ => rfl
  have g__law_whole := PySem.W.mg_of X G a__law_whole
  have F__law_error := fun_mk (st := S__law_error) l__law_error c__law_error k__law_error
  have b__law_error := F__law_error.binds (ps := ["e"]) fun _ _ _ _ _ _ us hl => match us, hl with | [_], _ => rfl
  have g__law_error := PySem.W.mg_of X G a__law_error
  have F__law_told_rank := fun_mk (st := S__law_told_rank) l__law_told_rank c__law_told_rank k__law_told_rank
  have b__law_told_rank := F__law_told_rank.binds (ps := ["grid", "value"]) fun _ _ _ _ _ _ us hl => match us, hl with | [_, _], _ => rfl
  have g__law_told_rank := PySem.W.mg_of X G a__law_told_rank
  have F__law_no_number := fun_mk (st := S__law_no_number) l__law_no_number c__law_no_number k__law_no_number
  have b__law_no_number := F__law_no_number.binds (ps := ["grid", "rank"]) fun _ _ _ _ _ _ us hl => match us, hl with | [_, _], _ => rfl
  have g__law_no_number := PySem.W.mg_of X G a__law_no_number
  have F__law_both_ways := fun_mk (st := S__law_both_ways) l__law_both_ways c__law_both_ways k__law_both_ways
  have b__law_both_ways := F__law_both_ways.binds (ps := ["grid", "base", "x", "rank"]) fun _ _ _ _ _ _ us hl => match us, hl with | [_, _, _, _], _ => rfl
  have g__law_both_ways := PySem.W.mg_of X G a__law_both_ways
  have F__law_ranks_right := fun_mk (st := S__law_ranks_right) l__law_ranks_right c__law_ranks_right k__law_ranks_right
  have b__law_ranks_right := F__law_ranks_right.binds (ps := ["grid", "base", "bottom", "whole", "above", "each"]) fun _ _ _ _ _ _ us hl => match us, hl with | [_, _, _, _, _, _], _ => rfl
  have g__law_ranks_right := PySem.W.mg_of X G a__law_ranks_right
  have F__law_refused_right := fun_mk (st := S__law_refused_right) l__law_refused_right c__law_refused_right k__law_refused_right
  have b__law_refused_right := F__law_refused_right.binds (ps := ["source", "grid", "base", "precision", "bottom", "room"]) fun _ _ _ _ _ _ us hl => match us, hl with | [_, _, _, _, _, _], _ => rfl
  have g__law_refused_right := PySem.W.mg_of X G a__law_refused_right
  have F__law_beyond_right := fun_mk (st := S__law_beyond_right) l__law_beyond_right c__law_beyond_right k__law_beyond_right
  have b__law_beyond_right := F__law_beyond_right.binds (ps := ["source", "grid", "greatest"]) fun _ _ _ _ _ _ us hl => match us, hl with | [_, _, _], _ => rfl
  have g__law_beyond_right := PySem.W.mg_of X G a__law_beyond_right
  have F_law := fun_mk (st := S_law) l_law c_law k_law
  have b_law := F_law.binds (ps := ["script"]) fun _ _ _ _ _ _ us hl => match us, hl with | [_], _ => rfl
  have g_law := PySem.W.mg_of X G a_law
  have g_LostError := PySem.W.mg_of X G a_LostError
  have B : Blt mg := ⟨PySem.W.mg_none_of X G z_len, PySem.W.mg_none_of X G z_int, PySem.W.mg_none_of X G z_abs, PySem.W.mg_none_of X G z_isi, PySem.W.mg_none_of X G z_range, PySem.W.mg_none_of X G z_boo, PySem.W.mg_none_of X G z_str, PySem.W.mg_none_of X G z_lst, PySem.W.mg_none_of X G z_tup, PySem.W.mg_none_of X G z_max, PySem.W.mg_none_of X G z_min, PySem.W.mg_none_of X G z_zip, PySem.W.mg_none_of X G z_srt, PySem.W.mg_none_of X G z_rev, PySem.W.mg_none_of X G z_dm, PySem.W.mg_none_of X G z_enu, PySem.W.mg_none_of X G z_sum, PySem.W.mg_none_of X G z_ve⟩
  have T_BadBase : PySem.LX.ExcT K f_BadBase := ⟨⟨⟨_, _, _, _, _, _, _, _, _, _, _, _, _, _, _, x_BadBase, rv_BadBase⟩, sa_BadBase, eC_BadBase, tC_BadBase, kC_BadBase⟩, ga_BadBase, gg_BadBase, hd_BadBase, ha_BadBase, x_hn, x_ht, hm_BadBase⟩
  have I_BadBase : PySem.LX.InitT PySem.Challenge.pw_lostpart_k72_rank_and_number K mg f_BadBase i_BadBase "BadBase.__init__" (defArgs S_BadBase___init__) (defBody S_BadBase___init__) (defScope S_BadBase___init__) := ⟨ii_BadBase, ti_BadBase, ⟨_, _, _, _, _, _, _, _, _, _, li_BadBase, ci_BadBase, ⟨_, _, _, _, _, _, lc_BadBase, v2_BadBase, fe_BadBase⟩, ⟨_, _, _, lk_BadBase⟩⟩, su_BadBase, ms_BadBase, sV_BadBase, x_op, PySem.W.mg_none_of X G x_su, by decide +kernel⟩
  have R_BadBase : PySem.LX.InitRuns PySem.Challenge.pw_lostpart_k72_rank_and_number K mg f_BadBase i_BadBase ["base"] := PySem.LX.init1 T_BadBase I_BadBase (fun _ => rfl) ⟨rfl, rfl, rfl, rfl, rfl, by decide +kernel, by decide +kernel⟩ (fun _ _ _ _ _ _ _ us hl => match us, hl with | [_, _], _ => rfl) rfl rfl (by decide) (by decide) n_base_BadBase (fun _ => rfl)
  have E_BadBase : XCls PySem.Challenge.pw_lostpart_k72_rank_and_number K mg "BadBase" f_BadBase ["base"] := ⟨T_BadBase, PySem.W.mg_of X G a_BadBase, _, ii_BadBase, ti_BadBase, R_BadBase⟩
  have T_BadGrid : PySem.LX.ExcT K f_BadGrid := ⟨⟨⟨_, _, _, _, _, _, _, _, _, _, _, _, _, _, _, x_BadGrid, rv_BadGrid⟩, sa_BadGrid, eC_BadGrid, tC_BadGrid, kC_BadGrid⟩, ga_BadGrid, gg_BadGrid, hd_BadGrid, ha_BadGrid, x_hn, x_ht, hm_BadGrid⟩
  have I_BadGrid : PySem.LX.InitT PySem.Challenge.pw_lostpart_k72_rank_and_number K mg f_BadGrid i_BadGrid "BadGrid.__init__" (defArgs S_BadGrid___init__) (defBody S_BadGrid___init__) (defScope S_BadGrid___init__) := ⟨ii_BadGrid, ti_BadGrid, ⟨_, _, _, _, _, _, _, _, _, _, li_BadGrid, ci_BadGrid, ⟨_, _, _, _, _, _, lc_BadGrid, v2_BadGrid, fe_BadGrid⟩, ⟨_, _, _, lk_BadGrid⟩⟩, su_BadGrid, ms_BadGrid, sV_BadGrid, x_op, PySem.W.mg_none_of X G x_su, by decide +kernel⟩
  have R_BadGrid : PySem.LX.InitRuns PySem.Challenge.pw_lostpart_k72_rank_and_number K mg f_BadGrid i_BadGrid ["what"] := PySem.LX.init1 T_BadGrid I_BadGrid (fun _ => rfl) ⟨rfl, rfl, rfl, rfl, rfl, by decide +kernel, by decide +kernel⟩ (fun _ _ _ _ _ _ _ us hl => match us, hl with | [_, _], _ => rfl) rfl rfl (by decide) (by decide) n_what_BadGrid (fun _ => rfl)
  have E_BadGrid : XCls PySem.Challenge.pw_lostpart_k72_rank_and_number K mg "BadGrid" f_BadGrid ["what"] := ⟨T_BadGrid, PySem.W.mg_of X G a_BadGrid, _, ii_BadGrid, ti_BadGrid, R_BadGrid⟩
  have T_MixedBases : PySem.LX.ExcT K f_MixedBases := ⟨⟨⟨_, _, _, _, _, _, _, _, _, _, _, _, _, _, _, x_MixedBases, rv_MixedBases⟩, sa_MixedBases, eC_MixedBases, tC_MixedBases, kC_MixedBases⟩, ga_MixedBases, gg_MixedBases, hd_MixedBases, ha_MixedBases, x_hn, x_ht, hm_MixedBases⟩
  have I_MixedBases : PySem.LX.InitT PySem.Challenge.pw_lostpart_k72_rank_and_number K mg f_MixedBases i_MixedBases "MixedBases.__init__" (defArgs S_MixedBases___init__) (defBody S_MixedBases___init__) (defScope S_MixedBases___init__) := ⟨ii_MixedBases, ti_MixedBases, ⟨_, _, _, _, _, _, _, _, _, _, li_MixedBases, ci_MixedBases, ⟨_, _, _, _, _, _, lc_MixedBases, v2_MixedBases, fe_MixedBases⟩, ⟨_, _, _, lk_MixedBases⟩⟩, su_MixedBases, ms_MixedBases, sV_MixedBases, x_op, PySem.W.mg_none_of X G x_su, by decide +kernel⟩
  have R_MixedBases : PySem.LX.InitRuns PySem.Challenge.pw_lostpart_k72_rank_and_number K mg f_MixedBases i_MixedBases ["left", "right"] := PySem.LX.init2 T_MixedBases I_MixedBases (fun _ => rfl) ⟨rfl, rfl, rfl, rfl, rfl, by decide +kernel, by decide +kernel⟩ (fun _ _ _ _ _ _ _ us hl => match us, hl with | [_, _, _], _ => rfl) rfl rfl (by decide) (by decide) (by decide) (by decide) (by decide) n_left_MixedBases n_right_MixedBases (fun _ => rfl) (fun _ => rfl)
  have E_MixedBases : XCls PySem.Challenge.pw_lostpart_k72_rank_and_number K mg "MixedBases" f_MixedBases ["left", "right"] := ⟨T_MixedBases, PySem.W.mg_of X G a_MixedBases, _, ii_MixedBases, ti_MixedBases, R_MixedBases⟩
  have T_NotANumber : PySem.LX.ExcT K f_NotANumber := ⟨⟨⟨_, _, _, _, _, _, _, _, _, _, _, _, _, _, _, x_NotANumber, rv_NotANumber⟩, sa_NotANumber, eC_NotANumber, tC_NotANumber, kC_NotANumber⟩, ga_NotANumber, gg_NotANumber, hd_NotANumber, ha_NotANumber, x_hn, x_ht, hm_NotANumber⟩
  have I_NotANumber : PySem.LX.InitT PySem.Challenge.pw_lostpart_k72_rank_and_number K mg f_NotANumber i_NotANumber "NotANumber.__init__" (defArgs S_NotANumber___init__) (defBody S_NotANumber___init__) (defScope S_NotANumber___init__) := ⟨ii_NotANumber, ti_NotANumber, ⟨_, _, _, _, _, _, _, _, _, _, li_NotANumber, ci_NotANumber, ⟨_, _, _, _, _, _, lc_NotANumber, v2_NotANumber, fe_NotANumber⟩, ⟨_, _, _, lk_NotANumber⟩⟩, su_NotANumber, ms_NotANumber, sV_NotANumber, x_op, PySem.W.mg_none_of X G x_su, by decide +kernel⟩
  have R_NotANumber : PySem.LX.InitRuns PySem.Challenge.pw_lostpart_k72_rank_and_number K mg f_NotANumber i_NotANumber ["value"] := PySem.LX.init1 T_NotANumber I_NotANumber (fun _ => rfl) ⟨rfl, rfl, rfl, rfl, rfl, by decide +kernel, by decide +kernel⟩ (fun _ _ _ _ _ _ _ us hl => match us, hl with | [_, _], _ => rfl) rfl rfl (by decide) (by decide) n_value_NotANumber (fun _ => rfl)
  have E_NotANumber : XCls PySem.Challenge.pw_lostpart_k72_rank_and_number K mg "NotANumber" f_NotANumber ["value"] := ⟨T_NotANumber, PySem.W.mg_of X G a_NotANumber, _, ii_NotANumber, ti_NotANumber, R_NotANumber⟩
  have T_NoRank : PySem.LX.ExcT K f_NoRank := ⟨⟨⟨_, _, _, _, _, _, _, _, _, _, _, _, _, _, _, x_NoRank, rv_NoRank⟩, sa_NoRank, eC_NoRank, tC_NoRank, kC_NoRank⟩, ga_NoRank, gg_NoRank, hd_NoRank, ha_NoRank, x_hn, x_ht, hm_NoRank⟩
  have I_NoRank : PySem.LX.InitT PySem.Challenge.pw_lostpart_k72_rank_and_number K mg f_NoRank i_NoRank "NoRank.__init__" (defArgs S_NoRank___init__) (defBody S_NoRank___init__) (defScope S_NoRank___init__) := ⟨ii_NoRank, ti_NoRank, ⟨_, _, _, _, _, _, _, _, _, _, li_NoRank, ci_NoRank, ⟨_, _, _, _, _, _, lc_NoRank, v2_NoRank, fe_NoRank⟩, ⟨_, _, _, lk_NoRank⟩⟩, su_NoRank, ms_NoRank, sV_NoRank, x_op, PySem.W.mg_none_of X G x_su, by decide +kernel⟩
  have R_NoRank : PySem.LX.InitRuns PySem.Challenge.pw_lostpart_k72_rank_and_number K mg f_NoRank i_NoRank ["rank"] := PySem.LX.init1 T_NoRank I_NoRank (fun _ => rfl) ⟨rfl, rfl, rfl, rfl, rfl, by decide +kernel, by decide +kernel⟩ (fun _ _ _ _ _ _ _ us hl => match us, hl with | [_, _], _ => rfl) rfl rfl (by decide) (by decide) n_rank_NoRank (fun _ => rfl)
  have E_NoRank : XCls PySem.Challenge.pw_lostpart_k72_rank_and_number K mg "NoRank" f_NoRank ["rank"] := ⟨T_NoRank, PySem.W.mg_of X G a_NoRank, _, ii_NoRank, ti_NoRank, R_NoRank⟩
  refine ⟨PySem.W.fnOf "law" "law" (defArgs S_law) (defBody S_law) (defScope S_law) .none kV_law dc_law pm_law an_law cd_law ct_law, fun s v => .of_eq rfl, fun base _ _ => ?_⟩
  have C_src := Cal.of (ok_source (P := PySem.Challenge.pw_lostpart_k72_rank_and_number) (w := w) (base := base) F__law_source B) g__law_source k__law_source b__law_source
  have C_draw := Cal.of (ok_draw (P := PySem.Challenge.pw_lostpart_k72_rank_and_number) (w := w) (base := base) F__law_draw B) g__law_draw k__law_draw b__law_draw
  have C_eq := Cal.of (ok_equal (P := PySem.Challenge.pw_lostpart_k72_rank_and_number) (w := w) (base := base) F__law_equal B g__law_equal k__law_equal b__law_equal 1) g__law_equal k__law_equal b__law_equal
  have C_base := Cal.of (ok_base F__law_base C_draw) g__law_base k__law_base b__law_base
  have C_cb := Cal.of (ok_cb (w := w) (base := base) F_check_base E_BadBase) g_check_base k_check_base b_check_base
  have C_pow := Cal.of (ok_pow (P := PySem.Challenge.pw_lostpart_k72_rank_and_number) (w := w) (base := base) F_power) g_power k_power b_power
  have C_sqs := Cal.of (ok_sqs (P := PySem.Challenge.pw_lostpart_k72_rank_and_number) (w := w) (base := base) F_squares_up_to) g_squares_up_to k_squares_up_to b_squares_up_to
  have C_wz := Cal.of (ok_wz F_without_zeros B C_pow C_sqs) g_without_zeros k_without_zeros b_without_zeros
  have XT : ExTxt K f_Exact := ⟨I_Exact, n_base_Exact, n_coefficient_Exact, n_exponent_Exact⟩
  have C_Exact := exact_cal M_Exact F_Exact___init__ b_Exact___init__ b3_Exact___init__ g_Exact (ok_ini F_Exact___init__ XT C_cb C_wz)
  have C_powl := Cal.of (ok_powl (P := PySem.Challenge.pw_lostpart_k72_rank_and_number) (w := w) (base := base) F__law_power B) g__law_power k__law_power b__law_power
  have C_low := Cal.of (ok_lowest F__law_lowest B C_powl) g__law_lowest k__law_lowest b__law_lowest
  have C_full := Cal.of (ok_full F__law_full B C_draw C_powl) g__law_full k__law_full b__law_full
  have C_small := Cal.of (ok_small F__law_small C_draw) g__law_small k__law_small b__law_small
  have C_make := Cal.of (ok_make F__law_make C_Exact) g__law_make k__law_make b__law_make
  have C_is := Cal.of (ok_is F__law_is B XT g_Exact C_low C_eq) g__law_is k__law_is b__law_is
  have C_dig := Cal.of (ok_dig F_count_digits B C_pow C_sqs) g_count_digits k_count_digits b_count_digits
  have P_sign : CalP PySem.Challenge.pw_lostpart_k72_rank_and_number w K mg base 1 f_Exact "sign" (spSign f_Exact) := ⟨_, _, _, _, Pr_Exact_sign, ok_sign F_Exact_sign XT, b_Exact_sign⟩
  have P_digits : CalP PySem.Challenge.pw_lostpart_k72_rank_and_number w K mg base 3 f_Exact "digits" (spDigits f_Exact) := ⟨_, _, _, _, Pr_Exact_digits, ok_digits F_Exact_digits XT C_dig, b_Exact_digits⟩
  have P_place : CalP PySem.Challenge.pw_lostpart_k72_rank_and_number w K mg base 3 f_Exact "place" (spPlace f_Exact) := ⟨_, _, _, _, Pr_Exact_place, ok_place F_Exact_place XT C_dig, b_Exact_place⟩
  have C_al := Cal.of (ok_al F_aligned XT C_pow E_MixedBases) g_aligned k_aligned b_aligned
  have C_cmp := Cal.of (ok_compared F_compared C_al) g_compared k_compared b_compared
  have O_gt := CalM.of Me_Exact___gt__ (ok_gt F_Exact___gt__ B I_Exact g_Exact C_cmp) b_Exact___gt__
  have O_abs := CalM.of Me_Exact___abs__ (ok_absE F_Exact___abs__ B XT C_Exact) b_Exact___abs__
  have GT : GrTxt K mg f_Grid := ⟨I_Grid, g_Grid, n_base_Grid, n_precision_Grid, n_bottom_Grid, n_top_Grid, _, Rd_Grid, ⟨_, Cv_Grid_LEAST⟩, ⟨_, Cv_Grid_MOST⟩⟩
  have GC := grid_cals M_Grid F_Grid___init__ g_Grid (ok_gini F_Grid___init__ GT C_cb E_BadGrid)
  have P_great : CalP PySem.Challenge.pw_lostpart_k72_rank_and_number w K mg base 5 f_Grid "greatest" (spGreat f_Exact f_Grid) := ⟨_, _, _, _, Pr_Grid_greatest, ok_great F_Grid_greatest GT C_pow C_Exact, b_Grid_greatest⟩
  have C_sameb := Cal.of (ok_sameb (w := w) (base := base) F_check_same_base GT XT E_MixedBases) g_check_same_base k_check_same_base b_check_same_base
  have C_bey := Cal.of (ok_bey F_beyond B GT XT sf_Exact O_abs P_great O_gt) g_beyond k_beyond b_beyond
  have O_in := CalM.of Me_Grid___contains__ (ok_in F_Grid___contains__ GT XT C_sameb P_digits C_bey) b_Grid___contains__
  have C_chkn := Cal.of (ok_chkn F_check_number E_NotANumber O_in) g_check_number k_check_number b_check_number
  have O_unit := CalM.of Me_Grid_unit (ok_unit F_Grid_unit GT XT C_sameb P_place) b_Grid_unit
  have C_bot := Cal.of (ok_bot (w := w) (base := base) F_check_bottom GT E_BadGrid) g_check_bottom k_check_bottom b_check_bottom
  have C_nip := Cal.of (ok_nip F_numbers_in_place GT C_pow) g_numbers_in_place k_numbers_in_place b_numbers_in_place
  have C_rank := Cal.of (ok_rank F_rank_of B GT XT C_bot C_chkn P_sign O_unit C_pow C_nip) g_rank_of k_rank_of b_rank_of
  have C_numa := Cal.of (ok_numa F_number_at B GT C_bot C_pow C_nip C_Exact C_bey E_NoRank) g_number_at k_number_at b_number_at
  have T : ErT PySem.Challenge.pw_lostpart_k72_rank_and_number K mg f_BadGrid f_MixedBases f_NotANumber f_NoRank f_LostError f_Exact := ⟨E_BadGrid, E_MixedBases, E_NotANumber, E_NoRank, g_LostError, g_Exact, m_BadGrid_LostError, m_MixedBases_LostError, m_NotANumber_LostError, m_NoRank_LostError, j_BadGrid_BadGrid, j_BadGrid_MixedBases, j_BadGrid_NotANumber, j_BadGrid_NoRank, j_MixedBases_BadGrid, j_MixedBases_MixedBases, j_MixedBases_NotANumber, j_MixedBases_NoRank, j_NotANumber_BadGrid, j_NotANumber_MixedBases, j_NotANumber_NotANumber, j_NotANumber_NoRank, j_NoRank_BadGrid, j_NoRank_MixedBases, j_NoRank_NotANumber, j_NoRank_NoRank, n_what_BadGrid, n_left_MixedBases, n_right_MixedBases, n_value_NotANumber, n_rank_NoRank⟩
  have X_err : CalX PySem.Challenge.pw_lostpart_k72_rank_and_number w K mg base 1 "_law_error" (spErr f_Exact f_BadGrid f_MixedBases f_NotANumber f_NoRank) := ⟨_, _, _, ok_err F__law_error B XT T, g__law_error, k__law_error, b__law_error, fun cls d a vs H Q E h => by obtain ⟨L, rfl, _⟩ := h; rfl⟩
  have C_told := Cal.of (ok_told F__law_told_rank T C_rank X_err) g__law_told_rank k__law_told_rank b__law_told_rank
  have C_non := Cal.of (ok_non F__law_no_number T C_numa X_err) g__law_no_number k__law_no_number b__law_no_number
  have C_both := Cal.of (ok_both F__law_both_ways C_make C_told C_eq C_numa C_is) g__law_both_ways k__law_both_ways b__law_both_ways
  have C_rr := Cal.of (ok_rr F__law_ranks_right C_both) g__law_ranks_right k__law_ranks_right b__law_ranks_right
  have C_ob := Cal.of (ok_ob F__law_other_base B C_draw) g__law_other_base k__law_other_base b__law_other_base
  have C_abv := Cal.of (ok_abv F__law_above B C_draw) g__law_above k__law_above b__law_above
  have C_who := Cal.of (ok_who F__law_whole C_draw C_full) g__law_whole k__law_whole b__law_whole
  have C_prec := Cal.of (ok_prec F__law_precision C_draw) g__law_precision k__law_precision b__law_precision
  have C_beyr := Cal.of (ok_beyr (C := f_Exact) F__law_beyond_right C_draw C_non C_eq) g__law_beyond_right k__law_beyond_right b__law_beyond_right
  have C_ref := Cal.of (ok_ref F__law_refused_right C_draw C_ob C_Exact GC C_make C_full C_powl C_told C_non C_eq) g__law_refused_right k__law_refused_right b__law_refused_right
  exact ok_law (C := f_Exact) F_law B C_src C_draw C_base C_prec C_small GC C_powl C_abv C_who C_rr C_both C_beyr C_ref
end Law
open PySem PySem.W PyProof.Rows
set_option maxRecDepth 100000 in
set_option maxHeartbeats 0 in
theorem PySem.Challenge.cw_lostpart_k72_rank_and_number_holds : PySem.Challenge.rw_lostpart_k72_rank_and_number.Holds := by
  w_on; o_law; k_head; (case hw => w_witness2)
  k_fill
  refine L2.walk_of (l := PySem.Challenge.rw_lostpart_k72_rank_and_number) (n := 63) (k := 14) (x := "script") (CX := fun w => L2N.CX PySem.Challenge.pw_lostpart_k72_rank_and_number w) (sp := fun w => L2.spLaw _) rfl (by decide) rfl ⟨rfl, by decide, by decide⟩ (fun w h Y => PySem.W.kIn_of Y) ?F (fun _ _ a ns hl _ hS => ⟨a, ns, rfl, hS, hl, fun _ => rfl⟩) (fun _ _ _ _ _ z => L2.cxn_no (fun _ _ _ z => z) z)
  case F =>
    intro w mg fa h KX G hmg
    refine' Law.all_mk KX G hmg ?a_Exact ?pg_Exact ?hd_Exact ?po_Exact ?sa_Exact ?ha_Exact ?hm_Exact ?kc_Exact ?mk_Exact ?ii_Exact ?fi_Exact ?n_base_Exact ?n_coefficient_Exact ?n_exponent_Exact ?at___abs___Exact ?if___abs___Exact ?at___gt___Exact ?if___gt___Exact ?a_Grid ?pg_Grid ?hd_Grid ?po_Grid ?sa_Grid ?ha_Grid ?hm_Grid ?kc_Grid ?mk_Grid ?ii_Grid ?fi_Grid ?ty_Grid ?rd_Grid ?rg_Grid ?cv_LEAST_Grid ?cr_LEAST_Grid ?cv_MOST_Grid ?cr_MOST_Grid ?n_base_Grid ?n_precision_Grid ?n_bottom_Grid ?n_top_Grid ?at___contains___Grid ?if___contains___Grid ?at_unit_Grid ?if_unit_Grid ?pat_Exact_sign ?pge_Exact_sign ?pta_Exact_sign ?prc_Exact_sign ?pat_Exact_digits ?pge_Exact_digits ?pta_Exact_digits ?prc_Exact_digits ?pat_Exact_place ?pge_Exact_place ?pta_Exact_place ?prc_Exact_place ?pat_Grid_greatest ?pge_Grid_greatest ?pta_Grid_greatest ?prc_Grid_greatest ?sf_Exact ?su_Exact ?l_Exact___init__ ?c_Exact___init__ ?k_Exact___init__ ?lT_Exact___init__ ?vT_Exact___init__ ?l_Exact___abs__ ?c_Exact___abs__ ?k_Exact___abs__ ?l_Exact___gt__ ?c_Exact___gt__ ?k_Exact___gt__ ?l_Exact_sign ?c_Exact_sign ?k_Exact_sign ?l_Exact_digits ?c_Exact_digits ?k_Exact_digits ?l_Exact_place ?c_Exact_place ?k_Exact_place ?l_Grid___init__ ?kd0_Grid___init__ ?kr0_Grid___init__ ?kd1_Grid___init__ ?kr1_Grid___init__ ?c_Grid___init__ ?k_Grid___init__ ?l_Grid___contains__ ?c_Grid___contains__ ?k_Grid___contains__ ?l_Grid_unit ?c_Grid_unit ?k_Grid_unit ?l_Grid_greatest ?c_Grid_greatest ?k_Grid_greatest ?a_power ?l_power ?c_power ?k_power ?a_squares_up_to ?l_squares_up_to ?c_squares_up_to ?k_squares_up_to ?a_count_digits ?l_count_digits ?c_count_digits ?k_count_digits ?a_without_zeros ?l_without_zeros ?c_without_zeros ?k_without_zeros ?a_check_base ?l_check_base ?c_check_base ?k_check_base ?a_aligned ?l_aligned ?c_aligned ?k_aligned ?a_compared ?l_compared ?c_compared ?k_compared ?a_check_same_base ?l_check_same_base ?c_check_same_base ?k_check_same_base ?a_check_number ?l_check_number ?c_check_number ?k_check_number ?a_beyond ?l_beyond ?c_beyond ?k_beyond ?a_check_bottom ?l_check_bottom ?c_check_bottom ?k_check_bottom ?a_numbers_in_place ?l_numbers_in_place ?c_numbers_in_place ?k_numbers_in_place ?a_rank_of ?l_rank_of ?c_rank_of ?k_rank_of ?a_number_at ?l_number_at ?c_number_at ?k_number_at ?a__law_source ?l__law_source ?c__law_source ?k__law_source ?a__law_draw ?l__law_draw ?c__law_draw ?k__law_draw ?a__law_base ?l__law_base ?c__law_base ?k__law_base ?a__law_precision ?l__law_precision ?c__law_precision ?k__law_precision ?a__law_power ?l__law_power ?c__law_power ?k__law_power ?a__law_lowest ?l__law_lowest ?c__law_lowest ?k__law_lowest ?a__law_full ?l__law_full ?c__law_full ?k__law_full ?a__law_small ?l__law_small ?c__law_small ?k__law_small ?a__law_equal ?l__law_equal ?c__law_equal ?k__law_equal ?a__law_make ?l__law_make ?c__law_make ?k__law_make ?a__law_is ?l__law_is ?c__law_is ?k__law_is ?a__law_other_base ?l__law_other_base ?c__law_other_base ?k__law_other_base ?a__law_above ?l__law_above ?c__law_above ?k__law_above ?a__law_whole ?l__law_whole ?c__law_whole ?k__law_whole ?a__law_error ?l__law_error ?c__law_error ?k__law_error ?a__law_told_rank ?l__law_told_rank ?c__law_told_rank ?k__law_told_rank ?a__law_no_number ?l__law_no_number ?c__law_no_number ?k__law_no_number ?a__law_both_ways ?l__law_both_ways ?c__law_both_ways ?k__law_both_ways ?a__law_ranks_right ?l__law_ranks_right ?c__law_ranks_right ?k__law_ranks_right ?a__law_refused_right ?l__law_refused_right ?c__law_refused_right ?k__law_refused_right ?a__law_beyond_right ?l__law_beyond_right ?c__law_beyond_right ?k__law_beyond_right ?a_law ?l_law ?c_law ?k_law ?a_LostError ?z_len ?z_int ?z_abs ?z_isi ?z_range ?z_boo ?z_str ?z_lst ?z_tup ?z_max ?z_min ?z_zip ?z_srt ?z_rev ?z_dm ?z_enu ?z_sum ?z_ve ?x_hn ?x_ht ?x_op ?x_su ?a_BadBase ?x_BadBase ?rv_BadBase ?sa_BadBase ?ga_BadBase ?gg_BadBase ?ha_BadBase ?hm_BadBase ?ms_BadBase ?eC_BadBase ?sV_BadBase ?tC_BadBase ?kC_BadBase ?hd_BadBase ?ii_BadBase ?ti_BadBase ?li_BadBase ?ci_BadBase ?lc_BadBase ?v2_BadBase ?fe_BadBase ?lk_BadBase ?su_BadBase ?n_base_BadBase ?a_BadGrid ?x_BadGrid ?rv_BadGrid ?sa_BadGrid ?ga_BadGrid ?gg_BadGrid ?ha_BadGrid ?hm_BadGrid ?ms_BadGrid ?eC_BadGrid ?sV_BadGrid ?tC_BadGrid ?kC_BadGrid ?hd_BadGrid ?ii_BadGrid ?ti_BadGrid ?li_BadGrid ?ci_BadGrid ?lc_BadGrid ?v2_BadGrid ?fe_BadGrid ?lk_BadGrid ?su_BadGrid ?n_what_BadGrid ?a_MixedBases ?x_MixedBases ?rv_MixedBases ?sa_MixedBases ?ga_MixedBases ?gg_MixedBases ?ha_MixedBases ?hm_MixedBases ?ms_MixedBases ?eC_MixedBases ?sV_MixedBases ?tC_MixedBases ?kC_MixedBases ?hd_MixedBases ?ii_MixedBases ?ti_MixedBases ?li_MixedBases ?ci_MixedBases ?lc_MixedBases ?v2_MixedBases ?fe_MixedBases ?lk_MixedBases ?su_MixedBases ?n_left_MixedBases ?n_right_MixedBases ?a_NotANumber ?x_NotANumber ?rv_NotANumber ?sa_NotANumber ?ga_NotANumber ?gg_NotANumber ?ha_NotANumber ?hm_NotANumber ?ms_NotANumber ?eC_NotANumber ?sV_NotANumber ?tC_NotANumber ?kC_NotANumber ?hd_NotANumber ?ii_NotANumber ?ti_NotANumber ?li_NotANumber ?ci_NotANumber ?lc_NotANumber ?v2_NotANumber ?fe_NotANumber ?lk_NotANumber ?su_NotANumber ?n_value_NotANumber ?a_NoRank ?x_NoRank ?rv_NoRank ?sa_NoRank ?ga_NoRank ?gg_NoRank ?ha_NoRank ?hm_NoRank ?ms_NoRank ?eC_NoRank ?sV_NoRank ?tC_NoRank ?kC_NoRank ?hd_NoRank ?ii_NoRank ?ti_NoRank ?li_NoRank ?ci_NoRank ?lc_NoRank ?v2_NoRank ?fe_NoRank ?lk_NoRank ?su_NoRank ?n_rank_NoRank ?m_BadGrid_LostError ?m_MixedBases_LostError ?m_NotANumber_LostError ?m_NoRank_LostError ?j_BadGrid_BadGrid ?j_BadGrid_MixedBases ?j_BadGrid_NotANumber ?j_BadGrid_NoRank ?j_MixedBases_BadGrid ?j_MixedBases_MixedBases ?j_MixedBases_NotANumber ?j_MixedBases_NoRank ?j_NotANumber_BadGrid ?j_NotANumber_MixedBases ?j_NotANumber_NotANumber ?j_NotANumber_NoRank ?j_NoRank_BadGrid ?j_NoRank_MixedBases ?j_NoRank_NotANumber ?j_NoRank_NoRank
    (case a_Exact => k_is)
    (case pg_Exact => k_is)
    (case hd_Exact => k_is)
    (case po_Exact => k_is)
    (case sa_Exact => k_is)
    (case ha_Exact => k_is)
    (case hm_Exact => k_is)
    (case kc_Exact => k_is)
    (case mk_Exact => k_is)
    (case ii_Exact => k_is)
    (case fi_Exact => k_is)
    (case n_base_Exact => k_is)
    (case n_coefficient_Exact => k_is)
    (case n_exponent_Exact => k_is)
    (case at___abs___Exact => k_is)
    (case if___abs___Exact => k_is)
    (case at___gt___Exact => k_is)
    (case if___gt___Exact => k_is)
    (case a_Grid => k_is)
    (case pg_Grid => k_is)
    (case hd_Grid => k_is)
    (case po_Grid => k_is)
    (case sa_Grid => k_is)
    (case ha_Grid => k_is)
    (case hm_Grid => k_is)
    (case kc_Grid => k_is)
    (case mk_Grid => k_is)
    (case ii_Grid => k_is)
    (case fi_Grid => k_is)
    (case ty_Grid => k_is)
    (case rd_Grid => k_is)
    (case rg_Grid => k_is)
    (case cv_LEAST_Grid => k_is)
    (case cr_LEAST_Grid => first | exact rfl | exact ⟨_, rfl⟩)
    (case cv_MOST_Grid => k_is)
    (case cr_MOST_Grid => first | exact rfl | exact ⟨_, rfl⟩)
    (case n_base_Grid => k_is)
    (case n_precision_Grid => k_is)
    (case n_bottom_Grid => k_is)
    (case n_top_Grid => k_is)
    (case at___contains___Grid => k_is)
    (case if___contains___Grid => k_is)
    (case at_unit_Grid => k_is)
    (case if_unit_Grid => k_is)
    (case pat_Exact_sign => k_is)
    (case pge_Exact_sign => k_is)
    (case pta_Exact_sign => k_is)
    (case prc_Exact_sign => k_is)
    (case pat_Exact_digits => k_is)
    (case pge_Exact_digits => k_is)
    (case pta_Exact_digits => k_is)
    (case prc_Exact_digits => k_is)
    (case pat_Exact_place => k_is)
    (case pge_Exact_place => k_is)
    (case pta_Exact_place => k_is)
    (case prc_Exact_place => k_is)
    (case pat_Grid_greatest => k_is)
    (case pge_Grid_greatest => k_is)
    (case pta_Grid_greatest => k_is)
    (case prc_Grid_greatest => k_is)
    (case sf_Exact => k_is)
    (case su_Exact => k_is)
    (case l_Exact___init__ => k_is)
    (case c_Exact___init__ => k_is)
    (case k_Exact___init__ => k_is)
    (case lT_Exact___init__ => k_is)
    (case vT_Exact___init__ => repeat (first | exact .nil | refine .cons (by first | exact ⟨_, rfl⟩ | rfl) ?_))
    (case l_Exact___abs__ => k_is)
    (case c_Exact___abs__ => k_is)
    (case k_Exact___abs__ => k_is)
    (case l_Exact___gt__ => k_is)
    (case c_Exact___gt__ => k_is)
    (case k_Exact___gt__ => k_is)
    (case l_Exact_sign => k_is)
    (case c_Exact_sign => k_is)
    (case k_Exact_sign => k_is)
    (case l_Exact_digits => k_is)
    (case c_Exact_digits => k_is)
    (case k_Exact_digits => k_is)
    (case l_Exact_place => k_is)
    (case c_Exact_place => k_is)
    (case k_Exact_place => k_is)
    (case l_Grid___init__ => k_is)
    (case kd0_Grid___init__ => k_is)
    (case kr0_Grid___init__ => first | exact rfl | exact ⟨_, rfl⟩)
    (case kd1_Grid___init__ => k_is)
    (case kr1_Grid___init__ => first | exact rfl | exact ⟨_, rfl⟩)
    (case c_Grid___init__ => k_is)
    (case k_Grid___init__ => k_is)
    (case l_Grid___contains__ => k_is)
    (case c_Grid___contains__ => k_is)
    (case k_Grid___contains__ => k_is)
    (case l_Grid_unit => k_is)
    (case c_Grid_unit => k_is)
    (case k_Grid_unit => k_is)
    (case l_Grid_greatest => k_is)
    (case c_Grid_greatest => k_is)
    (case k_Grid_greatest => k_is)
    (case a_power => k_is)
    (case l_power => k_is)
    (case c_power => k_is)
    (case k_power => k_is)
    (case a_squares_up_to => k_is)
    (case l_squares_up_to => k_is)
    (case c_squares_up_to => k_is)
    (case k_squares_up_to => k_is)
    (case a_count_digits => k_is)
    (case l_count_digits => k_is)
    (case c_count_digits => k_is)
    (case k_count_digits => k_is)
    (case a_without_zeros => k_is)
    (case l_without_zeros => k_is)
    (case c_without_zeros => k_is)
    (case k_without_zeros => k_is)
    (case a_check_base => k_is)
    (case l_check_base => k_is)
    (case c_check_base => k_is)
    (case k_check_base => k_is)
    (case a_aligned => k_is)
    (case l_aligned => k_is)
    (case c_aligned => k_is)
    (case k_aligned => k_is)
    (case a_compared => k_is)
    (case l_compared => k_is)
    (case c_compared => k_is)
    (case k_compared => k_is)
    (case a_check_same_base => k_is)
    (case l_check_same_base => k_is)
    (case c_check_same_base => k_is)
    (case k_check_same_base => k_is)
    (case a_check_number => k_is)
    (case l_check_number => k_is)
    (case c_check_number => k_is)
    (case k_check_number => k_is)
    (case a_beyond => k_is)
    (case l_beyond => k_is)
    (case c_beyond => k_is)
    (case k_beyond => k_is)
    (case a_check_bottom => k_is)
    (case l_check_bottom => k_is)
    (case c_check_bottom => k_is)
    (case k_check_bottom => k_is)
    (case a_numbers_in_place => k_is)
    (case l_numbers_in_place => k_is)
    (case c_numbers_in_place => k_is)
    (case k_numbers_in_place => k_is)
    (case a_rank_of => k_is)
    (case l_rank_of => k_is)
    (case c_rank_of => k_is)
    (case k_rank_of => k_is)
    (case a_number_at => k_is)
    (case l_number_at => k_is)
    (case c_number_at => k_is)
    (case k_number_at => k_is)
    (case a__law_source => k_is)
    (case l__law_source => k_is)
    (case c__law_source => k_is)
    (case k__law_source => k_is)
    (case a__law_draw => k_is)
    (case l__law_draw => k_is)
    (case c__law_draw => k_is)
    (case k__law_draw => k_is)
    (case a__law_base => k_is)
    (case l__law_base => k_is)
    (case c__law_base => k_is)
    (case k__law_base => k_is)
    (case a__law_precision => k_is)
    (case l__law_precision => k_is)
    (case c__law_precision => k_is)
    (case k__law_precision => k_is)
    (case a__law_power => k_is)
    (case l__law_power => k_is)
    (case c__law_power => k_is)
    (case k__law_power => k_is)
    (case a__law_lowest => k_is)
    (case l__law_lowest => k_is)
    (case c__law_lowest => k_is)
    (case k__law_lowest => k_is)
    (case a__law_full => k_is)
    (case l__law_full => k_is)
    (case c__law_full => k_is)
    (case k__law_full => k_is)
    (case a__law_small => k_is)
    (case l__law_small => k_is)
    (case c__law_small => k_is)
    (case k__law_small => k_is)
    (case a__law_equal => k_is)
    (case l__law_equal => k_is)
    (case c__law_equal => k_is)
    (case k__law_equal => k_is)
    (case a__law_make => k_is)
    (case l__law_make => k_is)
    (case c__law_make => k_is)
    (case k__law_make => k_is)
    (case a__law_is => k_is)
    (case l__law_is => k_is)
    (case c__law_is => k_is)
    (case k__law_is => k_is)
    (case a__law_other_base => k_is)
    (case l__law_other_base => k_is)
    (case c__law_other_base => k_is)
    (case k__law_other_base => k_is)
    (case a__law_above => k_is)
    (case l__law_above => k_is)
    (case c__law_above => k_is)
    (case k__law_above => k_is)
    (case a__law_whole => k_is)
    (case l__law_whole => k_is)
    (case c__law_whole => k_is)
    (case k__law_whole => k_is)
    (case a__law_error => k_is)
    (case l__law_error => k_is)
    (case c__law_error => k_is)
    (case k__law_error => k_is)
    (case a__law_told_rank => k_is)
    (case l__law_told_rank => k_is)
    (case c__law_told_rank => k_is)
    (case k__law_told_rank => k_is)
    (case a__law_no_number => k_is)
    (case l__law_no_number => k_is)
    (case c__law_no_number => k_is)
    (case k__law_no_number => k_is)
    (case a__law_both_ways => k_is)
    (case l__law_both_ways => k_is)
    (case c__law_both_ways => k_is)
    (case k__law_both_ways => k_is)
    (case a__law_ranks_right => k_is)
    (case l__law_ranks_right => k_is)
    (case c__law_ranks_right => k_is)
    (case k__law_ranks_right => k_is)
    (case a__law_refused_right => k_is)
    (case l__law_refused_right => k_is)
    (case c__law_refused_right => k_is)
    (case k__law_refused_right => k_is)
    (case a__law_beyond_right => k_is)
    (case l__law_beyond_right => k_is)
    (case c__law_beyond_right => k_is)
    (case k__law_beyond_right => k_is)
    (case a_law => k_is)
    (case l_law => k_is)
    (case c_law => k_is)
    (case k_law => k_is)
    (case a_LostError => k_is)
    (case z_len => k_is)
    (case z_int => k_is)
    (case z_abs => k_is)
    (case z_isi => k_is)
    (case z_range => k_is)
    (case z_boo => k_is)
    (case z_str => k_is)
    (case z_lst => k_is)
    (case z_tup => k_is)
    (case z_max => k_is)
    (case z_min => k_is)
    (case z_zip => k_is)
    (case z_srt => k_is)
    (case z_rev => k_is)
    (case z_dm => k_is)
    (case z_enu => k_is)
    (case z_sum => k_is)
    (case z_ve => k_is)
    (case x_hn => k_is)
    (case x_ht => k_is)
    (case x_op => k_is)
    (case x_su => k_is)
    (case a_BadBase => k_is)
    (case x_BadBase => k_is)
    (case rv_BadBase => decide +kernel)
    (case sa_BadBase => k_is)
    (case ga_BadBase => k_is)
    (case gg_BadBase => k_is)
    (case ha_BadBase => k_is)
    (case hm_BadBase => k_is)
    (case ms_BadBase => k_is)
    (case eC_BadBase => k_is)
    (case sV_BadBase => k_is)
    (case tC_BadBase => k_is)
    (case kC_BadBase => k_is)
    (case hd_BadBase => k_is)
    (case ii_BadBase => k_is)
    (case ti_BadBase => k_is)
    (case li_BadBase => k_is)
    (case ci_BadBase => k_is)
    (case lc_BadBase => k_is)
    (case v2_BadBase => rfl)
    (case fe_BadBase => decide +kernel)
    (case lk_BadBase => k_is)
    (case su_BadBase => ks_is)
    (case n_base_BadBase => k_is)
    (case a_BadGrid => k_is)
    (case x_BadGrid => k_is)
    (case rv_BadGrid => decide +kernel)
    (case sa_BadGrid => k_is)
    (case ga_BadGrid => k_is)
    (case gg_BadGrid => k_is)
    (case ha_BadGrid => k_is)
    (case hm_BadGrid => k_is)
    (case ms_BadGrid => k_is)
    (case eC_BadGrid => k_is)
    (case sV_BadGrid => k_is)
    (case tC_BadGrid => k_is)
    (case kC_BadGrid => k_is)
    (case hd_BadGrid => k_is)
    (case ii_BadGrid => k_is)
    (case ti_BadGrid => k_is)
    (case li_BadGrid => k_is)
    (case ci_BadGrid => k_is)
    (case lc_BadGrid => k_is)
    (case v2_BadGrid => rfl)
    (case fe_BadGrid => decide +kernel)
    (case lk_BadGrid => k_is)
    (case su_BadGrid => ks_is)
    (case n_what_BadGrid => k_is)
    (case a_MixedBases => k_is)
    (case x_MixedBases => k_is)
    (case rv_MixedBases => decide +kernel)
    (case sa_MixedBases => k_is)
    (case ga_MixedBases => k_is)
    (case gg_MixedBases => k_is)
    (case ha_MixedBases => k_is)
    (case hm_MixedBases => k_is)
    (case ms_MixedBases => k_is)
    (case eC_MixedBases => k_is)
    (case sV_MixedBases => k_is)
    (case tC_MixedBases => k_is)
    (case kC_MixedBases => k_is)
    (case hd_MixedBases => k_is)
    (case ii_MixedBases => k_is)
    (case ti_MixedBases => k_is)
    (case li_MixedBases => k_is)
    (case ci_MixedBases => k_is)
    (case lc_MixedBases => k_is)
    (case v2_MixedBases => rfl)
    (case fe_MixedBases => decide +kernel)
    (case lk_MixedBases => k_is)
    (case su_MixedBases => ks_is)
    (case n_left_MixedBases => k_is)
    (case n_right_MixedBases => k_is)
    (case a_NotANumber => k_is)
    (case x_NotANumber => k_is)
    (case rv_NotANumber => decide +kernel)
    (case sa_NotANumber => k_is)
    (case ga_NotANumber => k_is)
    (case gg_NotANumber => k_is)
    (case ha_NotANumber => k_is)
    (case hm_NotANumber => k_is)
    (case ms_NotANumber => k_is)
    (case eC_NotANumber => k_is)
    (case sV_NotANumber => k_is)
    (case tC_NotANumber => k_is)
    (case kC_NotANumber => k_is)
    (case hd_NotANumber => k_is)
    (case ii_NotANumber => k_is)
    (case ti_NotANumber => k_is)
    (case li_NotANumber => k_is)
    (case ci_NotANumber => k_is)
    (case lc_NotANumber => k_is)
    (case v2_NotANumber => rfl)
    (case fe_NotANumber => decide +kernel)
    (case lk_NotANumber => k_is)
    (case su_NotANumber => ks_is)
    (case n_value_NotANumber => k_is)
    (case a_NoRank => k_is)
    (case x_NoRank => k_is)
    (case rv_NoRank => decide +kernel)
    (case sa_NoRank => k_is)
    (case ga_NoRank => k_is)
    (case gg_NoRank => k_is)
    (case ha_NoRank => k_is)
    (case hm_NoRank => k_is)
    (case ms_NoRank => k_is)
    (case eC_NoRank => k_is)
    (case sV_NoRank => k_is)
    (case tC_NoRank => k_is)
    (case kC_NoRank => k_is)
    (case hd_NoRank => k_is)
    (case ii_NoRank => k_is)
    (case ti_NoRank => k_is)
    (case li_NoRank => k_is)
    (case ci_NoRank => k_is)
    (case lc_NoRank => k_is)
    (case v2_NoRank => rfl)
    (case fe_NoRank => decide +kernel)
    (case lk_NoRank => k_is)
    (case su_NoRank => ks_is)
    (case n_rank_NoRank => k_is)
    (case m_BadGrid_LostError => kts_exm)
    (case m_MixedBases_LostError => kts_exm)
    (case m_NotANumber_LostError => kts_exm)
    (case m_NoRank_LostError => kts_exm)
    (case j_BadGrid_BadGrid => kit_is)
    (case j_BadGrid_MixedBases => kit_is)
    (case j_BadGrid_NotANumber => kit_is)
    (case j_BadGrid_NoRank => kit_is)
    (case j_MixedBases_BadGrid => kit_is)
    (case j_MixedBases_MixedBases => kit_is)
    (case j_MixedBases_NotANumber => kit_is)
    (case j_MixedBases_NoRank => kit_is)
    (case j_NotANumber_BadGrid => kit_is)
    (case j_NotANumber_MixedBases => kit_is)
    (case j_NotANumber_NotANumber => kit_is)
    (case j_NotANumber_NoRank => kit_is)
    (case j_NoRank_BadGrid => kit_is)
    (case j_NoRank_MixedBases => kit_is)
    (case j_NoRank_NotANumber => kit_is)
    (case j_NoRank_NoRank => kit_is)
