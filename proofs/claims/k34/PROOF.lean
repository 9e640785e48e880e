import PyProof.Rows.All
import Wide.All
import OpenK.AllK
import Wide.FinOn
import KE.KExcSuper
import KE.KExcIs
import HandS.ForMost
import HandS.ForExc
import HandS.ExcInit
import HandS.ExcCtx
import HandS.ExcIs
import HandS.ExcField
import HandS.HotCalls
import HandS.IsInst
import HandS.Property
import HandS.Flow
import HandS.Defaults
import HandS.Wide
import HandS.Comp
import HandS.Text
import HandS.StrMore
import HandS.ReplaceLit
import HandS.Words
import KE.RegKSuper
import KE.RegKIsAll
import KE.RegKTryMore
import HandS.RevRange
import HandS.Conv
import HandS.SlotsOwn
import HandS.ClsMeth
import HandS.MakeKwOnly
import HandS.NoneIn
import KE.KOpsOwn
import HandS.Deep
import HandS.Star
import HandS.IterVal
import KE.KOwnIter
import HandS.OwnEq
import HandS.List
import HandS.More
import HandS.Zip
import PySem.Challenge.RW_lostpart_k34_standard_steps
set_option Elab.async false
set_option linter.all false
set_option maxRecDepth 100000
set_option maxHeartbeats 4000000
/-! Own exceptions whose __init__ says super().__init__(text) and stores one or two fields; the class stands under one more own class over ValueError. -/
namespace PySem
namespace LX
open PySem.W PySem.Calls PyProof.Rows PySem.HandSPX
/-- the text of such an __init__ -/
def supS (m : Str) (j : Nat) (a1 a2 a3 a4 a5 a6 : Pos) : Stmt :=
  .Expr (.Call (.Attribute (.Call (.Name "super" a1) [] [] a2) "__init__" a3) [.Constant (.str m) j a4] [] a5) a6
def fldS (f : Str) (q1 q2 q3 q4 : Pos) : Stmt := .Assign [.Attribute (.Name "self" q1) f q2] (.Name f q3) q4
/-- how that call is evaluated (by rfl, where the places are written) -/
def SupEq (m : Str) (j : Nat) (a1 a2 a3 a4 a5 : Pos) : Prop := ∀ env : Env, eval (.Call (.Attribute (.Call (.Name "super" a1) [] [] a2) "__init__" a3) [.Constant (.str m) j a4] [] a5) env = (do
      let ov ← attributeBase (.Call (.Name "super" a1) [] [] a2) "__init__" env (eval (.Call (.Name "super" a1) [] [] a2) env)
      standAt a3.atName
      let (f, first) ← holding [ov] (getMethod ov "__init__" (do return (← importBound (.Call (.Name "super" a1) [] [] a2) env).getD true))
      callWith a5 f first (backTo a5 (starEach [.Constant (.str m) j a4] env)) [])
/-- what the written part says of such a class at C -/
structure ExcT (K : Frag) (C : Addr) : Prop where
  ox : L2.OexC K C
  ga : findIn K (.ref C) "__getattribute__" = some (some (.builtin "BaseException.__getattribute__"))
  gg : findIn K (.ref C) "__getattr__" = some none
  hd : hasDictIn K C = true
  ha : findIn K (.ref C) "__class__" = some (some (.builtin "object.__class__"))
  hn : specialIn K (.builtin "object.__class__") "__get__" = some (some (.builtin "getset_descriptor.__get__"))
  ht : takesIn K (.builtin "object.__class__") = some true
  hm : mroIn K C (.type "object") = some true
/-- what it says of its __init__ at fI, the class's cell at cc, the code at cda; the def's st -/
structure InitT (P : Program) (K : Frag) (mg : Str → Option Value) (C fI : Addr) (qual : Str) (pa : Arguments) (bd : List Stmt) (sc : Scope) : Prop where
  iC : findIn K (.ref C) "__init__" = some (some (.ref fI))
  tC : typeIn K (.ref fI) = some (.type "function")
  fn : ∃ (oc : Value) (od : Option Addr) (kV doc pm : Value) (an : Option Addr) (ct : Value) (osl : Array (Option Value)) (cda cc : Addr),
    K.lookup fI = some ⟨oc, od, .func (ksFn "__init__" qual pa bd sc .none kV doc pm an (.ref cda) ct cc), osl⟩ ∧ codeIn K (.ref cda) qual = true ∧
    (∃ (ccl : Value) (cdd : Option Addr) (vs : Array Value) (ccs : Array (Option Value)) (file : Str) (tf : Tok), K.lookup cda = some ⟨ccl, cdd, .fields vs, ccs⟩ ∧ vs[2]? = some (.str file tf) ∧ ((P.main.file : Str) == file) = true) ∧
    ∃ (cl : Value) (cld : Option Addr) (csl : Array (Option Value)), K.lookup cc = some ⟨cl, cld, .cell (some (.ref C)), csl⟩
  sup : ks_superIn K C C "__init__" = some (some (.builtin "ValueError.__init__"))
  mro : mroIn K C (.ref C) = some true
  subV : subIn K (.ref C) (.type "ValueError") = some true
  opq : nsIn K cStatics "thirdparty.any" = some none
  gs : mg "super" = none
  top : (P.main.scope.names.lookup ("super" : Str)).isSome = false

section
variable {prog : Program} {w : World} {A : Around} {E : Value → Shared → Prop} {s : Shared} {K : Frag} {mg : Str → Option Value} {C fI : Addr} {qual : Str} {pa : Arguments} {bd : List Stmt} {sc : Scope}
/-- super().__init__(m): the exception's record is laid anew, the rest stands -/
theorem sup_stmt {body : List Stmt} {m : Str} {j : Nat} {a1 a2 a3 a4 a5 a6 : Pos} {cda cc : Addr} {L : Addr} {q : Str} {scope : Scope} {mL mb : Str → Option Value} {fd : FuncData} {oc : Value} {od : Option Addr} {osl : Array (Option Value)} {ar : Arg} {vs : Array Value} {file : Str} {tf : Tok} {ccl cl : Value} {cdd cld : Option Addr} {ccs csl : Array (Option Value)} {x t0 : Addr}
    {Q : Flow → Shared → Prop} (T : L2.OexC K C) (X : K.In s.heap) (hns : s.heap.Ns L mL) (hg : s.heap.Ns mainGlobals mg) (hb : s.heap.Ns builtinsNs mb) (hbb : mb "super" = some (.type "super"))
    (hf : K.lookup fI = some ⟨oc, od, .func fd, osl⟩) (hp : (fd.params.posonlyargs ++ fd.params.args).head? = some ar) (hv : mL ar.arg = some (.ref x)) (hx : s.heap.get? x = some (excO C t0))
    (hcode : K.lookup cda = some ⟨ccl, cdd, .fields vs, ccs⟩) (hvs : vs[2]? = some (.str file tf)) (hfile : ((prog.main.file : Str) == file) = true)
    (hcell : K.lookup cc = some ⟨cl, cld, .cell (some (.ref C)), csl⟩) (hmro : mroIn K C (.ref C) = some true) (hsup : ks_superIn K C C "__init__" = some (some (.builtin "ValueError.__init__"))) (hsubV : subIn K (.ref C) (.type "ValueError") = some true) (hop : nsIn K cStatics "thirdparty.any" = some none)
    (gs : mg "super" = none) (htop : (prog.main.scope.names.lookup ("super" : Str)).isSome = false)
    (hks : scope.names.lookup ("super" : Str) = some .globalImplicit) (hkc : scope.names.lookup ("__class__" : Str) = some .free) (hka : scope.names.lookup ar.arg = some .local) (hk : scope.kind = .function) (hxL : x ≠ L)
    (se : SupEq m j a1 a2 a3 a4 a5)
    (h : ∀ h' tk t1, (∀ b o, b ≠ x → s.heap.get? b = some o → h'.get? b = some o) → h'.get? x = some (excO C t1) → Q .next { s with heap := h', toks := tk }) :
    wpAt (model prog w) A (.func body (ksEnv q scope L fI (.ref cda) cc)) (exec (supS m j a1 a2 a3 a4 a5 a6) (ksEnv q scope L fI (.ref cda) cc)) Q E s := by
  obtain ⟨nm, qn, N, bs, bm, sn, sub, ab, col, dd, k0, k1, k2, k3, k5, hC, hbm⟩ := T.cls
  have hcl : clsIn K C = some { name := nm, bases := bs, mro := .ref C :: bm, ns := N, qualname := qn, hasDict := true, slotNames := sn, subclasses := sub, abstract := ab, collection := col, hasDel := false } := by unfold clsIn; rw [hC] <;> rfl
  refine ks_wpAt_Expr_any (ks_wpAt_MethodCall ?_ (se _)) (by unfold interactive; rw [show (ksEnv q scope L fI (.ref cda) cc).scope.kind = .function from hk]; rfl)
  obtain ⟨hh, g, d, t, os⟩ := s
  obtain ⟨oD, hD1, hD2⟩ : ∃ oD, hh.get? C = some oD ∧ oD.data = .cls { name := nm, bases := bs, mro := .ref C :: bm, ns := N, qualname := qn, hasDict := true, slotNames := sn, subclasses := sub, abstract := ab, collection := col, hasDel := false } := ⟨_, X _ _ hC, rfl⟩
  refine ks_wpAt_super_base (env := ksEnv q scope L fI (.ref cda) cc) hks hkc (by decide) rfl (X _ _ hf) rfl hp rfl (X _ _ hcode) rfl hvs hfile htop ?_
  refine ks_loadName_global hk hks (loadGlobal_builtin (env := ksEnv q scope L fI (.ref cda) cc) hg gs hb hbb ⟨rfl, ?_⟩)
  refine wpAny_loadName_free hk hkc rfl ⟨_, X _ _ hcell, rfl⟩ ?_
  refine wpAny_loadName_local hk hka hns hv ?_
  refine ks_wpAny_isType_cls hD1 hD2 ⟨rfl, ?_⟩
  refine ks_wpAny_call_super hD1 hD2 hx rfl (fun c e => by cases e) (looks_mroIn X hmro) (fun h1 e1 k1 => ?_)
  have X1 : K.In h1 := X.keeps k1
  have I1 : InstAt h1 x (excO C t0) C none := ⟨k1 _ _ hx, rfl, rfl, trivial⟩
  have hI : Looks (model prog w) h1 (isInstance (.ref x) (.type "ValueError")) true := I1.type.andThen (looks_subIn X1 hsubV)
  have hm' : alongIn K "__init__" ((((.ref C :: bm : List Value)).dropWhile (· != .ref C)).drop 1) = some (some (.builtin "ValueError.__init__")) := by
    have q1 := hsup
    unfold ks_superIn at q1
    rw [hcl] at q1
    exact q1
  refine kxs_getMethod kxs_ValueError e1 (looks_opaque X1 hop) (l₀ := .ref C :: bm) (fun A Q E s k q => wpAny_bind ((looks_clsIn X1 hcl) A _ E s k (wpAny_pure q))) rfl X1 hm' hI (ks_ne X1 I1 hcl) (by decide) ?_
  -- the call
  have e2 : (h1.push (kxs_mw "ValueError.__init__" x)).get? h1.objs.size = some (kxs_mw "ValueError.__init__" x) := Heap.get?_push_at rfl rfl
  have k2' : ∀ b o, h1.get? b = some o → (h1.push (kxs_mw "ValueError.__init__" x)).get? b = some o := fun b o e => Heap.get?_push_of_some _ e
  have hx2 := k2' _ _ (k1 _ _ hx)
  have hC2 := k2' _ _ (k1 _ _ (X _ _ hC))
  show wpAny _ _ (callWith a5 (.ref h1.objs.size) [] (backTo a5 (starEach [.Constant (.str m) j a4] _)) []) _ _ _
  refine kxs_callWith (i := "ValueError.__init__") (x := x) (by rfl) ?_
  refine evalArgs_plain (spliced_cons ?_)
  show wpAny _ _ (eval (.Constant (.str m) j a4) _) _ _ _
  refine Constant_str ?_
  refine spliced_nil ⟨e2, ?_⟩
  show wpAny _ _ (call (.ref h1.objs.size) [Value.str m (t + 1)]) _ _ _
  refine wpAny_call (codeAny_of_tree ?_)
  show wpAny _ _ (callAny (.ref h1.objs.size) ⟨[Value.str m (t + 1)], []⟩) _ _ _
  simp only [callAny]
  refine wpAny_bind (wpAny_load e2 ?_)
  simp only [kxs_mw, show (Value.type "method-wrapper" == Value.type "method" || Value.type "method-wrapper" == Value.type "builtin_function_or_method" || Value.type "method-wrapper" == Value.type "method-wrapper") = true by decide, if_true]
  refine KFB.if_so (by decide) ?_
  refine wpAny_bind (check_bound_init F.excBase_ValueError.toExcCallFacts hC2 hx2 rfl ?_)
  refine wpAny_bind (wpAny_pure (wpAny_pure ?_))
  refine ⟨plainId_quiet F.excBase_ValueError.init.plain _, codeAny_builtin F.excBase_ValueError.initEntry ?_⟩
  refine exc_init_tree (cls := .ref C) (t0 := t0) (dv := none) (c2 := .none) (c3 := .none) (b4 := .bool false) hx2 (by show 1 ≤ sizeLine; decide) fun h' k3 e3 _ => ?_
  refine h h' _ (h1.push (kxs_mw "ValueError.__init__" x)).objs.size (fun b o hb e => k3 b o hb (k2' _ _ (k1 _ _ e))) e3
end
/-- what the fields hold, the last one first -/
def nsOf : List (Str × Value) → Str → Option Value
  | [] => fun _ => none
  | (f, v) :: r => fun y => if y = f then some v else nsOf r y
/-- what such an __init__ leaves of a fresh exception at x -/
structure InitEnd (h h' : Heap) (x C dx t1 : Addr) (fs : List (Str × Value)) : Prop where
  keep : ∀ b o, b ≠ x → h.get? b = some o → h'.get? b = some o
  obj : h'.get? x = some { cls := .ref C, dict := some dx, data := .fields #[.ref t1, .none, .none, .none, .bool false, .none] }
  dbig : h.objs.size ≤ dx
  dne : dx ≠ x
  ns : h'.Ns1 dx (nsOf fs)
/-- the scope of such an __init__ -/
structure ScOk (sc : Scope) (nms : List Str) : Prop where
  ks : sc.names.lookup ("super" : Str) = some .globalImplicit
  kc : sc.names.lookup ("__class__" : Str) = some .free
  kd : sc.kind = .function
  co : sc.isCoroutine = false
  ge : sc.isGenerator = false
  ce : ∀ x ∈ sc.names, x.2 ≠ .cell
  lo : ∀ n ∈ ("self" : Str) :: nms, sc.names.lookup n = some .local
def BindOk (qual : Str) (pa : Arguments) (bd : List Stmt) (sc : Scope) (nms : List Str) : Prop :=
  ∀ (kV doc pm : Value) (an : Option Addr) (cdv ct : Value) (cc : Addr) (us : List Value), us.length = nms.length + 1 → bindArgs (ksFn "__init__" qual pa bd sc .none kV doc pm an cdv ct cc) ⟨us, []⟩ = pure ((("self" : Str) :: nms).zip us)
/-- such an __init__ runs -/
def InitRuns (prog : Program) (K : Frag) (mg : Str → Option Value) (C fI : Addr) (nms : List Str) : Prop :=
  ∀ (w : World) (A : Around) (s : Shared) (R : Result → Shared → Prop) (x t0 : Addr) (us : List Value) (mb : Str → Option Value), us.length = nms.length → K.In s.heap → s.heap.NoLimit → s.heap.Ns mainGlobals mg → s.heap.Ns builtinsNs mb → mb "super" = some (.type "super") →
    s.heap.get? x = some (excO C t0) → K.lookup x = none → A.depth < recursionLimit → (∀ h' tk dx t1, InitEnd s.heap h' x C dx t1 (nms.zip us).reverse → R (.ok (.ret .none)) { s with heap := h', toks := tk }) →
    codeAny (model prog w) A (.call (.ref fI) ⟨.ref x :: us, []⟩) R s
section
variable {prog : Program} {K : Frag} {mg : Str → Option Value} {C fI : Addr} {qual : Str} {pa : Arguments} {sc : Scope} {f g m : Str} {j : Nat} {a1 a2 a3 a4 a5 a6 q1 q2 q3 q4 r1 r2 r3 r4 : Pos} {ar : Arg}
theorem ldL {M : Model} {A : Around} {E : Value → Shared → Prop} {s : Shared} {env : Env} {m : Str → Option Value} {x : Str} {pos : Pos} {v : Value} {Q : Value → Shared → Prop} (hn : s.heap.Ns env.locals m) (hv : m x = some v) (h : Q v s)
    (hk : env.scope.kind = .function) (hl : env.kindOf x = some .local) (hd : (x == ("__debug__" : Str)) = false := by decide) : wpAny M A (eval (.Name x pos) env) Q E s := wpAny_Name (wpAny_loadName_local hk hl hn hv h) hd
theorem kept_but {K : Frag} {h h' : Heap} {x : Addr} (X : K.In h) (hx : K.lookup x = none) (k : ∀ b o, b ≠ x → h.get? b = some o → h'.get? b = some o) : K.In h' := fun a o e =>
  k a o (fun z => by rw [z, hx] at e; cases e) (X a o e)
theorem assign_attr {w : World} {A : Around} {E : Value → Shared → Prop} {s : Shared} {env : Env} {x : Addr} {v : Value} {mL : Str → Option Value} {Q : Flow → Shared → Prop} (hn : s.heap.Ns env.locals mL) (hf : mL f = some v) (hs : mL "self" = some (.ref x))
    (hk : env.scope.kind = .function) (h1 : env.kindOf f = some .local) (h2 : env.kindOf "self" = some .local) (hd : (f == ("__debug__" : Str)) = false) (hsw : swapsWith (.Name f q3) (some (.Attribute (.Name "self" q1) f q2)) q4.line env = pure false)
    (h : wpAny (model prog w) A (setAttr (.ref x) f v) (fun _ => Q .next) E s) : wpAny (model prog w) A (exec (fldS f q1 q2 q3 q4) env) Q E s := by
  refine plainObj_wpAny_Assign_Attribute ?_ hsw
  exact ldL hn hf (ldL hn hs h hk h2) hk h1 hd
theorem init1 (T : ExcT K C) (I : InitT prog K mg C fI qual pa [supS m j a1 a2 a3 a4 a5 a6, fldS f q1 q2 q3 q4] sc) (se : SupEq m j a1 a2 a3 a4 a5) (so : ScOk sc [f]) (bo : BindOk qual pa [supS m j a1 a2 a3 a4 a5 a6, fldS f q1 q2 q3 q4] sc [f])
    (hp : (pa.posonlyargs ++ pa.args).head? = some ar) (har : ar.arg = ("self" : Str)) (hfs : (f == ("self" : Str)) = false) (hfd : (f == ("__debug__" : Str)) = false) (hno : findIn K (.ref C) f = some none)
    (hsw : ∀ env : Env, swapsWith (.Name f q3) (some (.Attribute (.Name "self" q1) f q2)) q4.line env = pure false) : InitRuns prog K mg C fI [f] := by
  intro w A s R x t0 us mb hus X hlim hg hb hbb hx hnx hroom hq
  obtain ⟨v, rfl⟩ : ∃ v, us = [v] := by
    match us, hus with
    | [v], _ => exact ⟨v, rfl⟩
  obtain ⟨oc, od, kV, doc, pm, an, ct, osl, cda, cc, ho, hcd, ⟨ccl, cdd, vs, ccs, file, tf, hcode, hvs, hfile⟩, ⟨cl, cld, csl, hcell⟩⟩ := I.fn
  obtain ⟨nm, q, N, bs, bm, sn, sub, ab, col, dd, k0, k1, k2, k3, k5, hC, hbm⟩ := T.ox.cls
  have hcl : clsIn K C = some { name := nm, bases := bs, mro := .ref C :: bm, ns := N, qualname := q, hasDict := true, slotNames := sn, subclasses := sub, abstract := ab, collection := col, hasDel := false } := by unfold clsIn; rw [hC] <;> rfl
  refine ks_codeAny_call_defAt (fd := ksFn "__init__" qual pa [supS m j a1 a2 a3 a4 a5 a6, fldS f q1 q2 q3 q4] sc .none kV doc pm an (.ref cda) ct cc) (body := [supS m j a1 a2 a3 a4 a5 a6, fldS f q1 q2 q3 q4]) (binds := [("self", .ref x), (f, v)]) hroom (X _ _ ho) rfl hlim (codeRec_of X hcd) rfl (BindsTo.of_eq (bo _ _ _ _ _ _ _ [.ref x, v] rfl)) so.ce (fun y hy => ?_) (fun h₁ hns k₁ => ?_) so.co so.ge so.kd
  · have hy' : y = (("self" : Str), Value.ref x) ∨ y = (f, v) := by simpa using hy
    rcases hy' with rfl | rfl
    · exact so.lo _ (by simp)
    · exact so.lo _ (by simp)
  · have hxL : s.heap.objs.size ≠ x := Nat.ne_of_gt (Heap.lt_size hx)
    have m1 : (fun y : Str => List.lookup y (List.reverse [(("self" : Str), Value.ref x), (f, v)])) f = some v := by simp [List.lookup]
    have hsf : (("self" : Str) == f) = false := by
      rw [beq_eq_false_iff_ne] at hfs ⊢
      exact fun z => hfs z.symm
    have m2 : (fun y : Str => List.lookup y (List.reverse [(("self" : Str), Value.ref x), (f, v)])) "self" = some (.ref x) := by simp [List.lookup, hsf]
    have X₁ : K.In h₁ := X.keeps k₁
    show wpAt (model prog w) (A.deeper (ksEnv qual sc s.heap.objs.size fI (.ref cda) cc)) (.func _ (ksEnv qual sc s.heap.objs.size fI (.ref cda) cc)) (execs _ (ksEnv qual sc s.heap.objs.size fI (.ref cda) cc)) _ _ _
    refine ks_wpAt_execs_cons ?_
    refine sup_stmt (mg := mg) (mb := mb) (fd := ksFn "__init__" qual pa [supS m j a1 a2 a3 a4 a5 a6, fldS f q1 q2 q3 q4] sc .none kV doc pm an (.ref cda) ct cc) T.ox X₁ hns (hg.keeps k₁) (hb.keeps k₁) hbb ho hp (by rw [har]; exact m2) (k₁ _ _ hx) hcode hvs hfile hcell I.mro I.sup I.subV I.opq I.gs I.top so.ks so.kc (by rw [har]; exact so.lo _ (by simp)) so.kd (Ne.symm hxL) se fun h₂ tk₂ t1 k₂ hx₂ => ?_
    have hns₂ : h₂.Ns s.heap.objs.size (fun y => List.lookup y (List.reverse [(("self" : Str), Value.ref x), (f, v)])) := by
      obtain ⟨oL, es, ep, hL, r⟩ := hns
      exact ⟨oL, es, ep, k₂ _ _ hxL hL, r⟩
    have X₂ : K.In h₂ := kept_but X₁ hnx k₂
    refine wpAt_of_wpAny (wpAny_execs_cons (assign_attr (x := x) (v := v) hns₂ m1 m2 so.kd (so.lo _ (by simp)) (so.lo _ (by simp)) hfd (hsw _) ?_))
    refine set_plain X₂ (ox := excO C t1) (od := none) ⟨hx₂, rfl, rfl, trivial⟩ T.ox.sa ?_
    refine exc_osa X₂ hx₂ hcl (show refsVE (.ref C :: bm) = true from hbm) rfl hno (fun h₃ tk₃ dx k₃ dn dne hx₃ hn₃ => ?_)
    have z2 : s.heap.objs.size < h₂.objs.size := hns₂.lt
    exact wpAny_execs_nil (hq h₃ tk₃ dx t1 ⟨fun b o hb e => k₃ b o hb (k₂ b o hb (k₁ b o e)), hx₃, Nat.le_of_lt (Nat.lt_of_lt_of_le z2 dn), dne, hn₃⟩)
theorem init2 (T : ExcT K C) (I : InitT prog K mg C fI qual pa [supS m j a1 a2 a3 a4 a5 a6, fldS f q1 q2 q3 q4, fldS g r1 r2 r3 r4] sc) (se : SupEq m j a1 a2 a3 a4 a5) (so : ScOk sc [f, g]) (bo : BindOk qual pa [supS m j a1 a2 a3 a4 a5 a6, fldS f q1 q2 q3 q4, fldS g r1 r2 r3 r4] sc [f, g])
    (hp : (pa.posonlyargs ++ pa.args).head? = some ar) (har : ar.arg = ("self" : Str)) (hfs : (f == ("self" : Str)) = false) (hgs : (g == ("self" : Str)) = false) (hfg : (f == g) = false) (hfd : (f == ("__debug__" : Str)) = false) (hgd : (g == ("__debug__" : Str)) = false)
    (hno : findIn K (.ref C) f = some none) (hno2 : findIn K (.ref C) g = some none)
    (hsw : ∀ env : Env, swapsWith (.Name f q3) (some (.Attribute (.Name "self" q1) f q2)) q4.line env = pure false) (hsw2 : ∀ env : Env, swapsWith (.Name g r3) (some (.Attribute (.Name "self" r1) g r2)) r4.line env = pure false) : InitRuns prog K mg C fI [f, g] := by
  intro w A s R x t0 us mb hus X hlim hg hb hbb hx hnx hroom hq
  obtain ⟨v, u, rfl⟩ : ∃ v u, us = [v, u] := by
    match us, hus with
    | [v, u], _ => exact ⟨v, u, rfl⟩
  obtain ⟨oc, od, kV, doc, pm, an, ct, osl, cda, cc, ho, hcd, ⟨ccl, cdd, vs, ccs, file, tf, hcode, hvs, hfile⟩, ⟨cl, cld, csl, hcell⟩⟩ := I.fn
  obtain ⟨nm, q, N, bs, bm, sn, sub, ab, col, dd, k0, k1, k2, k3, k5, hC, hbm⟩ := T.ox.cls
  have hcl : clsIn K C = some { name := nm, bases := bs, mro := .ref C :: bm, ns := N, qualname := q, hasDict := true, slotNames := sn, subclasses := sub, abstract := ab, collection := col, hasDel := false } := by unfold clsIn; rw [hC] <;> rfl
  refine ks_codeAny_call_defAt (fd := ksFn "__init__" qual pa [supS m j a1 a2 a3 a4 a5 a6, fldS f q1 q2 q3 q4, fldS g r1 r2 r3 r4] sc .none kV doc pm an (.ref cda) ct cc) (body := [supS m j a1 a2 a3 a4 a5 a6, fldS f q1 q2 q3 q4, fldS g r1 r2 r3 r4]) (binds := [("self", .ref x), (f, v), (g, u)]) hroom (X _ _ ho) rfl hlim (codeRec_of X hcd) rfl (BindsTo.of_eq (bo _ _ _ _ _ _ _ [.ref x, v, u] rfl)) so.ce (fun y hy => ?_) (fun h₁ hns k₁ => ?_) so.co so.ge so.kd
  · have hy' : y = (("self" : Str), Value.ref x) ∨ y = (f, v) ∨ y = (g, u) := by simpa using hy
    rcases hy' with rfl | rfl | rfl
    · exact so.lo _ (by simp)
    · exact so.lo _ (by simp)
    · exact so.lo _ (by simp)
  · have hxL : s.heap.objs.size ≠ x := Nat.ne_of_gt (Heap.lt_size hx)
    have hsf : (("self" : Str) == f) = false := by
      rw [beq_eq_false_iff_ne] at hfs ⊢
      exact fun z => hfs z.symm
    have hsg : (("self" : Str) == g) = false := by
      rw [beq_eq_false_iff_ne] at hgs ⊢
      exact fun z => hgs z.symm
    have m1 : (fun y : Str => List.lookup y (List.reverse [(("self" : Str), Value.ref x), (f, v), (g, u)])) f = some v := by simp [List.lookup, hfg]
    have m3 : (fun y : Str => List.lookup y (List.reverse [(("self" : Str), Value.ref x), (f, v), (g, u)])) g = some u := by simp [List.lookup]
    have m2 : (fun y : Str => List.lookup y (List.reverse [(("self" : Str), Value.ref x), (f, v), (g, u)])) "self" = some (.ref x) := by simp [List.lookup, hsf, hsg]
    have X₁ : K.In h₁ := X.keeps k₁
    show wpAt (model prog w) (A.deeper (ksEnv qual sc s.heap.objs.size fI (.ref cda) cc)) (.func _ (ksEnv qual sc s.heap.objs.size fI (.ref cda) cc)) (execs _ (ksEnv qual sc s.heap.objs.size fI (.ref cda) cc)) _ _ _
    refine ks_wpAt_execs_cons ?_
    refine sup_stmt (mg := mg) (mb := mb) (fd := ksFn "__init__" qual pa [supS m j a1 a2 a3 a4 a5 a6, fldS f q1 q2 q3 q4, fldS g r1 r2 r3 r4] sc .none kV doc pm an (.ref cda) ct cc) T.ox X₁ hns (hg.keeps k₁) (hb.keeps k₁) hbb ho hp (by rw [har]; exact m2) (k₁ _ _ hx) hcode hvs hfile hcell I.mro I.sup I.subV I.opq I.gs I.top so.ks so.kc (by rw [har]; exact so.lo _ (by simp)) so.kd (Ne.symm hxL) se fun h₂ tk₂ t1 k₂ hx₂ => ?_
    have hns₂ : h₂.Ns s.heap.objs.size (fun y => List.lookup y (List.reverse [(("self" : Str), Value.ref x), (f, v), (g, u)])) := by
      obtain ⟨oL, es, ep, hL, r⟩ := hns
      exact ⟨oL, es, ep, k₂ _ _ hxL hL, r⟩
    have X₂ : K.In h₂ := kept_but X₁ hnx k₂
    refine wpAt_of_wpAny (wpAny_execs_cons (assign_attr (x := x) (v := v) hns₂ m1 m2 so.kd (so.lo _ (by simp)) (so.lo _ (by simp)) hfd (hsw _) ?_))
    refine set_plain X₂ (ox := excO C t1) (od := none) ⟨hx₂, rfl, rfl, trivial⟩ T.ox.sa ?_
    refine exc_osa X₂ hx₂ hcl (show refsVE (.ref C :: bm) = true from hbm) rfl hno (fun h₃ tk₃ dx k₃ dn dne hx₃ hn₃ => ?_)
    have z2 : s.heap.objs.size < h₂.objs.size := hns₂.lt
    have hns₃ : h₃.Ns s.heap.objs.size (fun y => List.lookup y (List.reverse [(("self" : Str), Value.ref x), (f, v), (g, u)])) := by
      obtain ⟨oL, es, ep, hL, r⟩ := hns₂
      exact ⟨oL, es, ep, k₃ _ _ hxL hL, r⟩
    have X₃ : K.In h₃ := kept_but X₂ hnx k₃
    have hw : Within (fun y => if y = f then some v else none) [f] := fun y hy => by
      by_cases e : y = f
      · rw [e]
        exact List.mem_cons_self ..
      · exact absurd (if_neg e) hy
    obtain ⟨oD, _, _, hoD, _, _⟩ := hn₃.count hw
    refine wpAny_execs_cons (assign_attr (x := x) (v := u) hns₃ m3 m2 so.kd (so.lo _ (by simp)) (so.lo _ (by simp)) hgd (hsw2 _) ?_)
    refine set_plain X₃ (ox := { cls := .ref C, dict := some dx, data := .fields #[.ref t1, .none, .none, .none, .bool false, .none] }) (od := some oD) ⟨hx₃, rfl, rfl, hoD⟩ T.ox.sa ?_
    refine OEX.osa_old X₃ hx₃ hn₃ hw (by show 1 ≤ 1000; decide) hcl (show refsVE (.ref C :: bm) = true from hbm) rfl hno2 (fun h₄ tk₄ k₄ hn₄ => ?_)
    exact wpAny_execs_nil (hq h₄ tk₄ dx t1 ⟨fun b o hb e => k₄ b o (Nat.ne_of_lt (Nat.lt_of_lt_of_le (Nat.lt_trans (Heap.lt_size e) z2) dn)) (k₃ b o hb (k₂ b o hb (k₁ b o e))), k₄ x _ (Ne.symm dne) hx₃, Nat.le_of_lt (Nat.lt_of_lt_of_le z2 dn), dne, hn₄⟩)
/-- C(us) -/
theorem made (T : ExcT K C) (iC : findIn K (.ref C) "__init__" = some (some (.ref fI))) (tC : typeIn K (.ref fI) = some (.type "function")) {nms : List Str} (IR : InitRuns prog K mg C fI nms) {w : World} {A : Around} {s : Shared} {R : Result → Shared → Prop} {us : List Value} {mb : Str → Option Value}
    (hus : us.length = nms.length) (hz : us.length ≤ sizeLine) (X : K.In s.heap) (hlim : s.heap.NoLimit) (hg : s.heap.Ns mainGlobals mg) (hb : s.heap.Ns builtinsNs mb) (hbb : mb "super" = some (.type "super")) (hroom : A.depth + 1 < recursionLimit)
    (hq : ∀ h' tk e dx t1, s.heap.objs.size ≤ e → (∀ b o, s.heap.get? b = some o → h'.get? b = some o) → h'.get? e = some { cls := .ref C, dict := some dx, data := .fields #[.ref t1, .none, .none, .none, .bool false, .none] } → s.heap.objs.size ≤ dx → dx ≠ e → h'.Ns1 dx (nsOf (nms.zip us).reverse) →
      R (.ok (.ret (.ref e))) { s with heap := h', toks := tk }) :
    codeAny (model prog w) A (.call (.ref C) ⟨us, []⟩) R s := by
  obtain ⟨nm, q, N, bs, bm, sn, sub, ab, col, dd, k0, k1, k2, k3, k5, hC, hbm⟩ := T.ox.cls
  obtain ⟨hp, g, dr, tk, os⟩ := s
  have k : ∀ b o, hp.get? b = some o → ((hp.push (kdv_tup us)).push (excO C hp.objs.size)).get? b = some o := fun b o e => Heap.get?_push_of_some _ (Heap.get?_push_of_some _ e)
  have hget : ((hp.push (kdv_tup us)).push (excO C hp.objs.size)).get? (hp.objs.size + 1) = some (excO C hp.objs.size) := by heap_get
  have hnx : K.lookup (hp.objs.size + 1) = none := by
    cases e : K.lookup (hp.objs.size + 1) with
    | none => rfl
    | some o =>
      have z : hp.get? (hp.objs.size + 1) = some o := X _ _ e
      exact absurd (Nat.lt_of_succ_lt (Heap.lt_size z)) (Nat.lt_irrefl _)
  refine call_own F.excBase_ValueError (fun X => refsVE_contains X bm hbm) (X _ _ hC) (looks_findIn X iC) (fun self => bind_fn X self tC) hz ?_
  refine IR w _ ⟨(hp.push (kdv_tup us)).push (excO C hp.objs.size), g, dr, tk, os⟩ _ (hp.objs.size + 1) hp.objs.size us mb hus (X.keeps k) (hlim.keeps k) (hg.keeps k) (hb.keeps k) hbb hget hnx ?_ fun h' tk' dx t1 ⟨k', hx, dn, dne, hns⟩ => ?_
  · show A.depth + 1 < recursionLimit
    exact hroom
  · have old : ∀ b o, hp.get? b = some o → h'.get? b = some o := fun b o e => k' b o (Nat.ne_of_lt (Nat.lt_succ_of_lt (Heap.lt_size e))) (k b o e)
    have z : hp.objs.size + 1 + 1 ≤ dx := by
      first
        | (simpa only [Heap.size_push] using dn)
        | exact dn
        | (have q := dn; rw [Heap.size_push, Heap.size_push] at q; exact q)
    exact ⟨rfl, hq h' tk' (hp.objs.size + 1) dx t1 (Nat.le_succ _) old hx (Nat.le_trans (Nat.le_trans (Nat.le_succ _) (Nat.le_succ _)) z) dne hns⟩
end
end LX
end PySem
namespace L2
open PySem PySem.Spec PyProof.Rows
theorem relO_ns : ∀ {fs : List (Str × V)} {us : List (Str × Value)}, Paired (fun (p : Str × V) (q : Str × Value) => p.1 = q.1 ∧ RelV p.2 q.2) fs us → ∀ f, RelO (fs.lookup f) (PySem.LX.nsOf us f)
  | _, _, .nil, f => True.intro
  | _, _, .cons (a := (g, v)) (b := (g', u)) r t, f => by
    obtain ⟨e, rv⟩ := r
    have e' : g = g' := e
    subst e'
    rw [lookup_put]
    show RelO _ (if f = g then some u else PySem.LX.nsOf _ f)
    by_cases h : f = g
    · rw [if_pos h, if_pos h]
      exact rv
    · rw [if_neg h, if_neg h]
      exact relO_ns t f
theorem paired_app {α β : Type} {F : α → β → Prop} {k₁ : List α} {k₂ : List β} {l₁ : List α} {l₂ : List β} (h : Paired F l₁ l₂) (g : Paired F k₁ k₂) : Paired F (l₁ ++ k₁) (l₂ ++ k₂) := by
  induction h with
  | nil => exact g
  | cons r t ih => exact .cons r ih
theorem paired_rev {α β : Type} {F : α → β → Prop} {l₁ : List α} {l₂ : List β} (h : Paired F l₁ l₂) : Paired F l₁.reverse l₂.reverse := by
  induction h with
  | nil => exact .nil
  | cons r t ih =>
    rw [List.reverse_cons, List.reverse_cons]
    exact paired_app ih (.cons r .nil)
theorem paired_zip {nms : List Str} : ∀ {vs : List V} {us : List Value}, Vals vs us → Paired (fun (p : Str × V) (q : Str × Value) => p.1 = q.1 ∧ RelV p.2 q.2) (nms.zip vs) (nms.zip us) := by
  induction nms with
  | nil => intro vs us _; exact .nil
  | cons n r ih =>
    intro vs us h
    cases h with
    | nil => exact .nil
    | cons q t => exact .cons ⟨rfl, q⟩ (ih t)
section
variable {X : Cx} {C fI : Addr}
/-- C(e, ..) -/
def tMkX (C : Addr) (nms : List Str) (ta : TA) : St → Hp → XK → Prop := fun σ H Q => ta σ H fun vs H1 => vs.length = nms.length ∧ nms.length ≤ 10 ∧ ∀ d, H1 d = none → Q (.ref C) (some d) (upd H1 d (.xd (nms.zip vs).reverse))
theorem pmk_x {e : Expr} {es : List Expr} {ta : TA} {x : Str} {p pos : Pos} {k : Nat} {nms : List Str} (T : PySem.LX.ExcT X.K C) (iC : PySem.W.findIn X.K (.ref C) "__init__" = some (some (.ref fI))) (tC : PySem.W.typeIn X.K (.ref fI) = some (.type "function"))
    (IR : PySem.LX.InitRuns X.prog X.K X.mg C fI nms) (gC : X.mg x = some (.ref C)) (hr : Room k X.A) (ha : PA X (e :: es) ta) (hg : Gl X x) (hdb : (x == ("__debug__" : Str)) = false := by decide)
    (he : starEach (e :: es) X.env = (false, eval e X.env) :: starEach es X.env := by rfl) (hpl : (backTo pos (starEach es X.env)).any (·.1) = false := by rfl) :
    L2N.PMk X (.Call (.Name x p) (e :: es) [] pos) (tMkX C nms ta) := by
  intro pins s σ H Q I h
  refine wpAny_Call_Name_kw (ld_glob I hg gC ?_ hdb)
  refine PySem.W.callWith_K (h₀ := X.base) I.ok.mod.kin T.ox.kC (thn (ha.run pos pins s σ H _ I h) fun us s1 hh => ?_) he hpl
  obtain ⟨vs, H1, I1, r1, hl, hten, q1⟩ := hh
  refine ⟨I1.kIn, ?_⟩
  show wpAny _ _ (call (.ref C) us) _ _ _
  have hlim := I1.nolimit
  obtain ⟨mb, b1, b2⟩ := I1.mod.blt
  have hlu : us.length = nms.length := by rw [← r1.length, hl]
  have hG : s1.heap.Ns mainGlobals X.mg := I1.mod.glob.keeps I1.bk
  have hB : s1.heap.Ns builtinsNs mb := b1.keeps I1.bk
  obtain ⟨hp, g, dr, tk, os⟩ := s1
  refine wpAny_call (PySem.LX.made T iC tC IR hlu (by rw [hlu, sizeLine_eq]; omega) I1.kIn hlim hG hB ((b2 "super" (by decide)).trans (by decide +kernel)) (by have := hr.dp; omega) fun h' tk' e' d t1 hne old hoe hdb' dne hns => ?_)
  show L2N.MkP X pins σ Q (.ref e') ⟨h', g, dr, tk', os⟩
  obtain ⟨G', g1, g2⟩ := restrict h' fun b => decide (b ≠ e')
  have gk : ∀ b, b ≠ e' → G'.get? b = h'.get? b := fun b hb => g1 b (decide_eq_true hb)
  have ge : G'.get? e' = none := g2 e' (by simp)
  have old' : ∀ b o, hp.get? b = some o → G'.get? b = some o := fun b o q => (gk b (Nat.ne_of_lt (Nat.lt_of_lt_of_le (Heap.lt_size q) hne))).trans (old b o q)
  have ob : ObjOk X.prog X.w (upd H1 d (.xd (nms.zip vs).reverse)) G' d (.xd (nms.zip vs).reverse) :=
    ⟨_, hns.at (fun o q => (gk d dne).trans q), relO_ns (paired_rev (paired_zip r1))⟩
  have J : Inv X pins σ (upd H1 d (.xd (nms.zip vs).reverse)) ⟨G', g, dr, tk', os⟩ := I1.laid (t' := tk') old' hdb' ob
  refine ⟨e', _, _, ⟨G', g, dr, tk', os⟩, _, .ref C, some d, rfl, J, fun b o q => ?_, ge, hoe, ⟨rfl, rfl, fun vs e => by cases e; rfl⟩, rfl, rfl, ?_, rfl, I1.bare, raises_own T.ox.exC T.ox.tyC, q1 d (I1.hok.fresh hdb')⟩
  · by_cases hb : b = e'
    · have q' : G'.get? b = some o := q
      rw [hb, ge] at q'; cases q'
    · exact (gk b hb).symm.trans q
  · rw [upd_ne (Ne.symm dne)]
    exact I1.hok.fresh hne
end
end L2

namespace PySem.W
open PySem PySem.Spec PySem.Calls PyProof.Rows
theorem kitx_excD {K : Frag} {x D : Addr} {ox : Obj} (T : PySem.LX.ExcT K D) : KitX K (.ref x) (.ref D) (fun h => ∃ od, InstAt h x ox D od) where
  ty := fun _ _ _ ⟨_, I⟩ => I.type
  it := fun _ _ X _ => by
    obtain ⟨cdD, hcD, _⟩ := any_some T.hd
    unfold clsIn at hcD
    split at hcD
    · rename_i c' d' cd' sl' ho
      intro A' Q' E' s' k q
      unfold isType loadHead
      exact wpAny_bind (wpAny_loadPart (k _ _ (X _ _ ho)) (wpAny_pure q))
    · cases hcD
  ne := fun h tp dd its n sl X htp => by
    obtain ⟨cdD, hcD, _⟩ := any_some T.hd
    refine Bool.eq_false_iff.mpr fun q => ?_
    have e : D = tp := Value.ref.inj (beq_iff_eq.mp q)
    subst e
    unfold clsIn at hcD
    split at hcD
    · rename_i c' d' cd' sl' ho
      have z := (X _ _ ho).symm.trans htp
      cases z
    · cases hcD
  ca := fun X ⟨_, I⟩ k => kx_classE X I T.ga T.gg T.ox.exC (findObj_dataE (by obtain ⟨cd, hc, _⟩ := any_some T.hd; rw [hc]; rfl) T.ha T.hn T.ht) T.hm k
end PySem.W
namespace L2
open PySem PySem.Spec PyProof.Rows
/-- d is the exception's own dict, or it has none -/
def DOk (H : Hp) (d : Option Addr) : Prop := d = none ∨ ∃ dd fs, d = some dd ∧ H dd = some (.xd fs)
theorem inst_exc {X : Cx} {a C : Addr} {oe : Obj} {cls : Value} {d : Option Addr} {pn pins : List (Addr × Obj)} {σ : St} {H : Hp} {s : Shared} (hz : Zc cls d oe) (hf : ∃ vs, oe.data = .fields vs) (I : Inv (X.suite a ((a, oe) :: pn)) pins σ H s) (hc : cls = .ref C) (hd : DOk H d) : ∃ od, PySem.W.InstAt s.heap a oe C od := by
  obtain ⟨hget, _⟩ := I.pin (a, oe) (List.mem_append.mpr (.inl List.mem_cons_self))
  obtain ⟨vs, hv⟩ := hf
  subst hc
  rcases hd with rfl | ⟨dd, fs, rfl, hx⟩
  · refine ⟨none, hget, hz.1, by unfold PySem.W.notCls; rw [hv] <;> rfl, by rw [hz.2]; trivial⟩
  · have hx' : ObjOk X.prog X.w H s.heap dd (.xd fs) := I.hok dd _ hx
    obtain ⟨mA, hns, hr⟩ := hx'
    obtain ⟨od, ho, hl⟩ := lookIn_ns hns
    exact ⟨some od, hget, hz.1, by unfold PySem.W.notCls; rw [hv] <;> rfl, by rw [hz.2]; exact ho⟩
/-- isinstance(e, c), e the exception that the suite holds -/
def rIsX (K : PySem.W.Frag) (cls : Value) (d : Option Addr) (a : Addr) : List V → Hp → VK → Prop := fun xs H Q => ∃ (D : Addr) (c : V) (cv : Value) (b : Bool), cls = .ref D ∧ PySem.LX.ExcT K D ∧ DOk H d ∧ xs = [.ref a, c] ∧ (∀ u, RelV c u → u = cv) ∧ PySem.W.kitOne K (.ref D) cv = some b ∧ Q (.bl b) H
theorem call_isX {X : Cx} {a : Addr} {oe : Obj} {cls : Value} {d : Option Addr} {pn : List (Addr × Obj)} (hz : Zc cls d oe) (hf : ∃ vs, oe.data = .fields vs) : CallR (X.suite a ((a, oe) :: pn)) (.builtin "isinstance") (rIsX X.K cls d a) := by
  intro pins s σ H xs us Q I r h
  obtain ⟨D, c, cv, b, hc, T, hd, rfl, hcv, e, q⟩ := h
  cases r with
  | cons rx rr =>
    cases rr with
    | cons rt rr =>
      cases rr
      cases rx
      have ec := hcv _ rt
      subst ec
      exact PySem.W.kia_one (PySem.W.kitx_excD (ox := oe) T) I.kIn (inst_exc hz hf I hc hd) e (fun z => nomatch z) fun tk => ⟨.bl b, H, I.kept (t' := tk) fun _ _ z => z, rfl, q⟩
/-- e.f -/
def tXd (K : PySem.W.Frag) (a : Addr) (cls : Value) (d : Option Addr) (f : Str) (te : TE) : TE := fun σ H Q => te σ H fun x H1 => x = .ref a ∧ ∃ (C dd : Addr) (fs : List (Str × V)) (v : V), cls = .ref C ∧ d = some dd ∧ PySem.LX.ExcT K C ∧ PySem.W.findIn K (.ref C) f = some none ∧ H1 dd = some (.xd fs) ∧ fs.lookup f = some v ∧ Q v H1
theorem pe_xd {X : Cx} {a : Addr} {oe : Obj} {cls : Value} {d : Option Addr} {pn : List (Addr × Obj)} {e : Expr} {te : TE} {pos : Pos} {n : Str}
    (hz : Zc cls d oe) (hf : ∃ vs, oe.data = .fields vs) (he : PE (X.suite a ((a, oe) :: pn)) e te) (hb : attributeBase e n X.env (eval e X.env) = eval e X.env := by rfl) :
    PE (X.suite a ((a, oe) :: pn)) (.Attribute e n pos) (tXd X.K a cls d n te) := by
  refine ⟨fun pins s σ H Q I h => ?_⟩
  refine attr_of hb (thn (he.run pins s σ H _ I h) fun u s1 hh => ?_)
  obtain ⟨x, H1, I1, rx, ex, C, dd, fs, v, ec, ed, T, hno, ea, l, q⟩ := hh
  subst ex
  obtain rfl : u = Value.ref a := rx
  subst ec
  subst ed
  obtain ⟨ha, _⟩ := I1.pin (a, oe) (List.mem_append_left _ List.mem_cons_self)
  obtain ⟨vs, hd⟩ := hf
  have hx : ObjOk X.prog X.w H1 s1.heap dd (.xd fs) := I1.hok dd _ ea
  obtain ⟨mA, hns, hr⟩ := hx
  obtain ⟨od, ho, hl⟩ := lookIn_ns hns
  obtain ⟨u, hu, ru⟩ := RelO.some_of (v := v) (o := mA n) (by rw [← l]; exact hr n)
  have J : PySem.W.InstAt s1.heap a oe C (some od) := ⟨ha, hz.1, by unfold PySem.W.notCls; rw [hd] <;> rfl, by rw [hz.2]; exact ho⟩
  exact HandSPX.exc_get I1.kIn J T.ga T.gg T.ox.exC (PySem.W.findObj_own T.hd hno rfl (by rw [hl, hu])) (handed_of ru) ⟨v, H1, I1.tok _, ru, q⟩
end L2

/-! A calculus of weakest wishes over the hand layer: ZE (expressions), ZT (tests), ZA (arguments), ZS, ZSs (statements), by their syntax. -/
namespace L2
open PySem PySem.Spec PyProof.Rows
section
variable {X : Cx}
structure ZE (X : Cx) (e : Expr) (σ : St) (H : Hp) (Q : VK) : Prop where
  run : ∀ pins s, Inv X pins σ H s → wpAny (model X.prog X.w) X.A (eval e X.env) (EP X pins σ Q) X.xe s
structure ZT (X : Cx) (e : Expr) (σ : St) (H : Hp) (Q : Bool → Hp → Prop) : Prop where
  run : ∀ pins s, Inv X pins σ H s → wpAny (model X.prog X.w) X.A (isTrue e X.env (eval e X.env)) (TP X pins σ Q) X.xe s
structure ZW (X : Cx) (e : Expr) (σ : St) (H : Hp) (Q : Bool → Hp → Prop) : Prop where
  run : ∀ whole pins s, Inv X pins σ H s → wpAny (model X.prog X.w) X.A (isTrue e X.env whole) (TP X pins σ Q) X.xe s
structure ZA (X : Cx) (es : List Expr) (σ : St) (H : Hp) (Q : List V → Hp → Prop) : Prop where
  run : ∀ pos pins s, Inv X pins σ H s → wpAny (model X.prog X.w) X.A (spliced (backTo pos (starEach es X.env))) (AP X pins σ Q) X.xe s
abbrev NX := St → Hp → Prop
structure ZS (X : Cx) (st : Stmt) (nx : NX) (rt : VK) (bk ct : NX) (σ : St) (H : Hp) : Prop where
  run : ∀ pins s, Inv X pins σ H s → wpAny (model X.prog X.w) X.A (exec st X.env) (SP X pins ⟨nx, rt, bk, ct⟩) X.xe s
structure ZSs (X : Cx) (st : List Stmt) (nx : NX) (rt : VK) (bk ct : NX) (σ : St) (H : Hp) : Prop where
  run : ∀ pins s, Inv X pins σ H s → wpAny (model X.prog X.w) X.A (execs st X.env) (SP X pins ⟨nx, rt, bk, ct⟩) X.xe s
structure ZG (X : Cx) (tg : Expr) (v : V) (σ : St) (H : Hp) (Q : St → Hp → Prop) : Prop where
  run : ∀ pins s u, Inv X pins σ H s → RelV v u → wpAny (model X.prog X.w) X.A (assign tg X.env u) (fun _ s' => ∃ σ' H', Inv X pins σ' H' s' ∧ Q σ' H') X.xe s
structure ZGs (X : Cx) (ts : List Expr) (vs : List V) (σ : St) (H : Hp) (Q : St → Hp → Prop) : Prop where
  run : ∀ pins s us, Inv X pins σ H s → Vals vs us → wpAny (model X.prog X.w) X.A (assignInOrder ((assignEach ts X.env).map (·.2)) us) (fun _ s' => ∃ σ' H', Inv X pins σ' H' s' ∧ Q σ' H') X.xe s
structure ZI (X : Cx) (tg iter : Expr) (σ : St) (H : Hp) (R : It → Hp → Prop) : Prop where
  run : ∀ pins s, Inv X pins σ H s → wpAny (model X.prog X.w) X.A (eval iter X.env) (fun v s1 => wpAny (model X.prog X.w) X.A (pyIter v) (PIE X pins σ tg R) X.xe s1) X.xe s
structure OpW (X : Cx) (σ : St) (f : Value → Value → Sem Value) (x y : V) (H : Hp) (Q : VK) : Prop where
  run : ∀ pins s v u, Inv X pins σ H s → RelV x v → RelV y u → wpAny (model X.prog X.w) X.A (f v u) (EP X pins σ Q) X.xe s
structure UnW (X : Cx) (f : Value → Sem Value) (x : V) (H : Hp) (Q : VK) : Prop where
  run : ∀ pins s σ v, Inv X pins σ H s → RelV x v → wpAny (model X.prog X.w) X.A (f v) (EP X pins σ Q) X.xe s
structure CallW (X : Cx) (f : Value) (xs : List V) (H : Hp) (Q : VK) : Prop where
  run : ∀ pins s σ us, Inv X pins σ H s → Vals xs us → wpAny (model X.prog X.w) X.A (call f us) (EP X pins σ Q) X.xe s
structure TruW (X : Cx) (x : V) (H : Hp) (Q : Bool → Hp → Prop) : Prop where
  run : ∀ pins s σ v, Inv X pins σ H s → RelV x v → wpAny (model X.prog X.w) X.A (truthy v) (TP X pins σ Q) X.xe s
structure MtW (X : Cx) (id : String) (x : V) (xs : List V) (H : Hp) (Q : VK) : Prop where
  run : ∀ pins s σ v us, Inv X pins σ H s → RelV x v → Vals xs us → wpAny (model X.prog X.w) X.A (call (.builtin id) (v :: us)) (EP X pins σ Q) X.xe s
structure IxW (X : Cx) (σ : St) (x y : V) (H : Hp) (Q : VK) : Prop where
  run : ∀ value slice pins s v u, Inv X pins σ H s → RelV x v → RelV y u → subscripted slice false v u = operate [v, u] (getItem v u) → wpAny (model X.prog X.w) X.A (subscriptTail value slice v u) (EP X pins σ Q) X.xe s
structure AtW (X : Cx) (f : Str) (x : V) (H : Hp) (Q : VK) : Prop where
  run : ∀ pins s σ u, Inv X pins σ H s → RelV x u → wpAny (model X.prog X.w) X.A (getAttr u f true) (EP X pins σ Q) X.xe s
structure SetW (X : Cx) (o i v : V) (H : Hp) (Q : Hp → Prop) : Prop where
  run : ∀ pins s σ ov iv u, Inv X pins σ H s → RelV o ov → RelV i iv → RelV v u → wpAny (model X.prog X.w) X.A (setItem ov iv u) (fun _ s' => ∃ H', Inv X pins σ H' s' ∧ Q H') X.xe s
structure SlW (X : Cx) (x : V) (lo hi : Option Int) (H : Hp) (Q : VK) : Prop where
  run : ∀ pins s σ v vl vu sl, Inv X pins σ H s → RelV x v → s.heap.IsSliceOf sl vl vu .none → IsPart vl lo → IsPart vu hi →
    ∃ T id, typeLookup (.type T) "__getitem__" = pure (some (.builtin id)) ∧ s.TypeIs v T ∧ wpAny (model X.prog X.w) X.A (getItem v (.ref sl)) (EP X pins σ Q) X.xe s
structure IpW (X : Cx) (op : Operator) (x y : V) (H : Hp) (Q : VK) : Prop where
  run : ∀ pins s σ v u, Inv X pins σ H s → RelV x v → RelV y u → wpAny (model X.prog X.w) X.A (inplaceOp op v u) (EP X pins σ Q) X.xe s

variable {e a b c : Expr} {es : List Expr} {st : Stmt} {sts rest : List Stmt} {t : TE} {tt : TT} {ta : TA} {ts : TS} {σ : St} {H : Hp} {Q : VK} {D : Ends} {pos : Pos}
theorem pe_we : PE X e (ZE X e) := ⟨fun pins s σ H Q I h => h.run pins s I⟩
theorem pt_wt : PT X e (ZT X e) := ⟨fun pins s σ H Q I h => h.run pins s I⟩
theorem pw_ww : PW X e (ZW X e) := ⟨fun wh pins s σ H Q I h => h.run wh pins s I⟩
theorem pa_wa : PA X es (ZA X es) := ⟨fun pos pins s σ H Q I h => h.run pos pins s I⟩
theorem ps_ws : PS X st (fun D σ H => ZS X st D.nx D.rt D.bk D.ct σ H) := ⟨fun pins s σ H D I h => h.run pins s I⟩
theorem pss_wss : PSs X sts (fun D σ H => ZSs X sts D.nx D.rt D.bk D.ct σ H) := ⟨fun pins s σ H D I h => h.run pins s I⟩
theorem pg_wg : PG X e (ZG X e) := ⟨fun pins s σ H v u Q I r h => h.run pins s u I r⟩
theorem pgs_wgs : PGs X es (ZGs X es) := ⟨fun pins s σ H vs us Q I r h => h.run pins s us I r⟩
theorem pi_wi : PI X a b (ZI X a b) := ⟨fun pins s σ H R I h => h.run pins s I⟩
theorem un_w {f : Value → Sem Value} : UnR X f (UnW X f) := fun pins s σ H x v Q I rx h => h.run pins s σ v I rx
theorem call_w {f : Value} : CallR X f (CallW X f) := fun pins s σ H xs us Q I r h => h.run pins s σ us I r
theorem tru_w : TruR X (TruW X) := fun pins s σ H x v Q I r h => h.run pins s σ v I r
theorem mt_w {id : String} : MtR X id (MtW X id) := fun pins s σ H x xs v us Q I rx r h => h.run pins s σ v us I rx r
theorem set_w : PSet X (SetW X) := fun pins s σ H o i v ov iv u Q I ro ri rv h => h.run pins s σ ov iv u I ro ri rv
theorem sl_w : SlR X (SlW X) := fun pins s σ H x v vl vu lo hi sl Q I rx hs pl pu h => h.run pins s σ v vl vu sl I rx hs pl pu
theorem ip_w {op : Operator} : PIp X op (IpW X op) := fun pins s σ H x y v u Q I rx ry h => h.run pins s σ v u I rx ry
theorem PE.w (h : PE X e t) (q : t σ H Q) : ZE X e σ H Q := ⟨fun pins s I => h.run pins s σ H Q I q⟩
theorem PT.w (h : PT X e tt) {Q : Bool → Hp → Prop} (q : tt σ H Q) : ZT X e σ H Q := ⟨fun pins s I => h.run pins s σ H Q I q⟩
theorem PW.w (h : PW X e tt) {Q : Bool → Hp → Prop} (q : tt σ H Q) : ZW X e σ H Q := ⟨fun wh pins s I => h.run wh pins s σ H Q I q⟩
theorem PA.w (h : PA X es ta) {Q : List V → Hp → Prop} (q : ta σ H Q) : ZA X es σ H Q := ⟨fun pos pins s I => h.run pos pins s σ H Q I q⟩
variable {nx bk ct : NX} {rt : VK}
theorem PS.w (h : PS X st ts) (q : ts ⟨nx, rt, bk, ct⟩ σ H) : ZS X st nx rt bk ct σ H := ⟨fun pins s I => h.run pins s σ H _ I q⟩
theorem PSs.w (h : PSs X sts ts) (q : ts ⟨nx, rt, bk, ct⟩ σ H) : ZSs X sts nx rt bk ct σ H := ⟨fun pins s I => h.run pins s σ H _ I q⟩
theorem PG.w {g : TG} (h : PG X e g) {v : V} {Q : St → Hp → Prop} (q : g v σ H Q) : ZG X e v σ H Q := ⟨fun pins s u I r => h.run pins s σ H v u Q I r q⟩
theorem PGs.w {g : TGs} (h : PGs X es g) {vs : List V} {Q : St → Hp → Prop} (q : g vs σ H Q) : ZGs X es vs σ H Q := ⟨fun pins s us I r => h.run pins s σ H vs us Q I r q⟩
theorem PI.w {wi : TI} (h : PI X a b wi) {R : It → Hp → Prop} (q : wi σ H R) : ZI X a b σ H R := ⟨fun pins s I => h.run pins s σ H R I q⟩
theorem OpR.w {f : Value → Value → Sem Value} {r : R2} (h : OpR X f r) {x y : V} (q : r x y H Q) : OpW X σ f x y H Q := ⟨fun pins s v u I rx ry => h pins s σ H x y v u Q I rx ry q⟩
theorem UnR.w {f : Value → Sem Value} {r : V → Hp → VK → Prop} (h : UnR X f r) {x : V} (q : r x H Q) : UnW X f x H Q := ⟨fun pins s σ v I rx => h pins s σ H x v Q I rx q⟩
theorem CallR.w {f : Value} {r : List V → Hp → VK → Prop} (h : CallR X f r) {xs : List V} (q : r xs H Q) : CallW X f xs H Q := ⟨fun pins s σ us I rx => h pins s σ H xs us Q I rx q⟩
theorem MtR.w {id : String} {r : V → List V → Hp → VK → Prop} (h : MtR X id r) {x : V} {xs : List V} (q : r x xs H Q) : MtW X id x xs H Q := ⟨fun pins s σ v us I rx rs => h pins s σ H x xs v us Q I rx rs q⟩
theorem IxR.w {r : R2} (h : IxR X r) {x y : V} (q : r x y H Q) : IxW X σ x y H Q := ⟨fun value slice pins s v u I rx ry e => h value slice pins s σ H x y v u Q I rx ry q e⟩
theorem PSet.w {r : TSet} (h : PSet X r) {o i v : V} {Q : Hp → Prop} (q : r o i v H Q) : SetW X o i v H Q := ⟨fun pins s σ ov iv u I ro ri rv => h pins s σ H o i v ov iv u Q I ro ri rv q⟩
theorem SlR.w {r : V → Option Int → Option Int → Hp → VK → Prop} (h : SlR X r) {x : V} {lo hi : Option Int} (q : r x lo hi H Q) : SlW X x lo hi H Q := ⟨fun pins s σ v vl vu sl I rx hs pl pu => h pins s σ H x v vl vu lo hi sl Q I rx hs pl pu q⟩
theorem PIp.w {op : Operator} {r : TIp} (h : PIp X op r) {x y : V} (q : r x y H Q) : IpW X op x y H Q := ⟨fun pins s σ v u I rx ry => h pins s σ H x y v u Q I rx ry q⟩

/-! ### expressions -/
theorem ze_var (i : Nat) {x : Str} {v : V} (hN : X.N[i]? = some x) (hv : σ[i]? = some (some v)) (q : Q v H) (vi : Vis X.env.scope x := by first | exact Or.inl rfl | exact Or.inr (Or.inl rfl) | exact Or.inr (Or.inr rfl))
    (hd : (x == ("__debug__" : Str)) = false := by decide) (hcd : (x == ("__classdict__" : Str)) = false := by decide) : ZE X (.Name x pos) σ H Q := (pe_var hN vi hd hcd).w ⟨v, hv, q⟩
theorem ze_int {i : Int} {j : Nat} (q : Q (.int i) H) : ZE X (.Constant (.int i) j pos) σ H Q := pe_int.w q
theorem ze_bl {i : Bool} {j : Nat} (q : Q (.bl i) H) : ZE X (.Constant (.bool i) j pos) σ H Q := pe_bl.w q
theorem ze_str {i : Str} {j : Nat} (q : Q (.str i) H) : ZE X (.Constant (.str i) j pos) σ H Q := pe_str.w q
theorem ze_non {j : Nat} (q : Q .non H) : ZE X (.Constant .none j pos) σ H Q := pe_non.w q
theorem ze_glob {x : Str} {v : V} {u : Value} (hm : X.mg x = some u) (r : RelV v u) (q : Q v H) (hg : Gl X x := by rfl) (hd : (x == ("__debug__" : Str)) = false := by decide) : ZE X (.Name x pos) σ H Q := (pe_glob hg hm r hd).w q
theorem ze_bltn {x : Str} {v : V} {u : Value} (hm : X.mg x = none) (hv : bootBuiltins x = some u) (r : RelV v u) (q : Q v H) (hg : Gl X x := by rfl) (hn : x ≠ "__name__" := by decide) (hd : (x == ("__debug__" : Str)) = false := by decide) : ZE X (.Name x pos) σ H Q := (pe_bltn hg hm hv r hn hd).w q
theorem ze_op {op : Operator} (h : ZE X a σ H fun x H1 => ZE X b σ H1 fun y H2 => OpW X σ (binaryOp op) x y H2 Q) : ZE X (.BinOp a op b pos) σ H Q := ⟨fun pins s I => wpAny_BinOp (binT pe_we pe_we I h fun v u s2 x y H2 I2 rx ry q => q.run pins s2 v u I2 rx ry)⟩
theorem ze_un {op : UnaryOp} (h : ZE X a σ H fun x H1 => UnW X (unaryOp op) x H1 Q) : ZE X (.UnaryOp op a pos) σ H Q := (pe_un un_w pe_we).w h
theorem ze_notV (h : ZE X a σ H fun x H1 => ∃ c, x = .bl c ∧ Q (.bl (!c)) H1) : ZE X (.UnaryOp .Not a pos) σ H Q := (pe_not pe_we).w h
theorem ze_cmp {op : CmpOp} (hm : behindInMarks op b = false) (h : ZE X a σ H fun x H1 => ZE X b σ H1 fun y H2 => OpW X σ (compareOp op) x y H2 Q) : ZE X (.Compare a [op] [b] pos) σ H Q := ⟨fun pins s I => wpAny_Compare1 (binT pe_we pe_we I h fun v u s2 x y H2 I2 rx ry q => q.run pins s2 v u I2 rx ry) hm⟩
theorem ze_chain {op op' : CmpOp} (hm : lastMarks [op, op'] [b, c] = false) (h : ZE X a σ H fun x H1 => ZE X b σ H1 fun y H2 => OpW X σ (compareOp op) x y H2 fun z H3 => ∃ k, z = .bl k ∧ (if k = true then ZE X c σ H3 fun w' H4 => OpW X σ (compareOp op') y w' H4 Q else Q (.bl false) H3)) : ZE X (.Compare a [op, op'] [b, c] pos) σ H Q := by
  refine ⟨fun pins s I => ?_⟩
  refine Compare_chain (thn (h.run pins s I) fun v s1 ⟨x, H1, I1, r1, q1⟩ => chain_link (thn (q1.run pins s1 I1) fun u s2 ⟨y, H2, I2, r2, q2⟩ => thn (q2.run pins s2 v u I2 r1 r2) fun d s3 ⟨z, H3, I3, r3, k, e, q3⟩ => ?_)) hm
  subst e
  cases r3
  refine wpAny_truthy_bool ?_
  cases k with
  | true => exact ite_tt (chain_last (thn (q3.run pins s3 I3) fun w' s4 ⟨z', H4, I4, r4, q4⟩ => q4.run pins s4 u w' I4 r2 r4))
  | false => exact ite_ff ⟨.bl false, H3, I3, rfl, q3⟩
theorem ze_and1 {op : BoolOp} (h : ZE X a σ H Q) : ZE X (.BoolOp op [a] pos) σ H Q := (pe_one pe_we).w h
theorem ze_and (h : ZE X a σ H fun x H1 => ∃ c, x = .bl c ∧ if c = true then ZE X (.BoolOp .And (b :: es) pos) σ H1 Q else Q (.bl false) H1) : ZE X (.BoolOp .And (a :: b :: es) pos) σ H Q := (pe_and pe_we pe_we).w h
theorem ze_or (h : ZE X a σ H fun x H1 => ∃ c, x = .bl c ∧ if c = true then Q (.bl true) H1 else ZE X (.BoolOp .Or (b :: es) pos) σ H1 Q) : ZE X (.BoolOp .Or (a :: b :: es) pos) σ H Q := (pe_or pe_we pe_we).w h
theorem ze_if (h : ZT X c σ H fun k H1 => if k = true then ZE X a σ H1 Q else ZE X b σ H1 Q) : ZE X (.IfExp c a b pos) σ H Q := (pe_ifExp pt_wt pe_we pe_we).w h
theorem ze_tup {k : Nat} (h : ZA X es σ H fun xs H1 => xs.length ≤ sizeLine ∧ ∀ p, H1 p = none → Q (.ref p) (upd H1 p (.tup xs))) : ZE X (.Tuple es k pos) σ H Q := (pe_tup pa_wa).w h
theorem ze_lst (h : ZA X es σ H fun xs H1 => xs.length ≤ sizeLine ∧ ∀ p, H1 p = none → Q (.ref p) (upd H1 p (.lst xs))) : ZE X (.List es pos) σ H Q := (pe_lst pa_wa).w h
theorem za_nil {Q : List V → Hp → Prop} (q : Q [] H) : ZA X [] σ H Q := pa_nil.w q
theorem za_cons {Q : List V → Hp → Prop} (h : ZE X e σ H fun x H1 => ZA X es σ H1 fun xs H2 => Q (x :: xs) H2) (hs : starEach (e :: es) X.env = (false, eval e X.env) :: starEach es X.env := by rfl) : ZA X (e :: es) σ H Q := (pa_cons pe_we pa_wa hs).w h
theorem ze_sub (h : ZE X a σ H fun x H1 => ZE X b σ H1 fun y H2 => IxW X σ x y H2 Q) (hs : PlainIx b := by exact fun _ _ => rfl) : ZE X (.Subscript a b pos) σ H Q := ⟨fun pins s I => Subscript_ (binT pe_we pe_we I h fun v u s2 x y H2 I2 rx ry q => q.run a b pins s2 v u I2 rx ry (hs _ _))⟩
def ZO (X : Cx) (e : Option Expr) : TO := match e with
  | none => tNoPart
  | some e => tPart (fun σ H Q => ZE X e σ H Q)
theorem po_wo : ∀ {e : Option Expr}, PO X e (ZO X e)
  | none => po_none
  | some _ => po_some pe_we
theorem ze_slice {lo hi : Option Expr} {p2 : Pos} (h : ZE X a σ H fun x H1 => ZO X lo σ H1 fun l H2 => ZO X hi σ H2 fun u H3 => SlW X x l u H3 Q) : ZE X (.Subscript a (.Slice lo hi none p2) pos) σ H Q := (pe_slice sl_w pe_we po_wo po_wo).w h
theorem zo_none {Q : Option Int → Hp → Prop} (q : Q none H) : ZO X none σ H Q := q
theorem zo_some {Q : Option Int → Hp → Prop} (h : ZE X e σ H fun x H1 => ∃ i, x = .int i ∧ Q (some i) H1) : ZO X (some e) σ H Q := h
theorem ze_attr {f : Str} (h : ZE X a σ H fun x H1 => AtW X f x H1 Q) (hb : attributeBase a f X.env (eval a X.env) = eval a X.env := by rfl) : ZE X (.Attribute a f pos) σ H Q := ⟨fun pins s I =>
  attr_of hb (thn (h.run pins s I) fun u s1 ⟨x, H1, I1, rx, q⟩ => q.run pins s1 σ u I1 rx)⟩
/-- a built-in function's call -/
theorem ze_callB {x : Str} {id : String} {p : Pos} (hm : X.mg x = none) (hv : bootBuiltins x = some (.builtin id)) (h : ZA X (e :: es) σ H fun vs H1 => CallW X (.builtin id) vs H1 Q) (hg : Gl X x := by rfl) (hn : x ≠ "__name__" := by decide) (hdb : (x == ("__debug__" : Str)) = false := by decide)
    (he : starEach (e :: es) X.env = (false, eval e X.env) :: starEach es X.env := by rfl) (hpl : (backTo pos (starEach es X.env)).any (·.1) = false := by rfl) : ZE X (.Call (.Name x p) (e :: es) [] pos) σ H Q := (pe_callB call_w hg hm hv pa_wa hn hdb he hpl).w h
theorem ze_callT {x : Str} {T : String} {p : Pos} (hm : X.mg x = none) (hv : bootBuiltins x = some (.type T)) (h : ZA X (e :: es) σ H fun vs H1 => CallW X (.type T) vs H1 Q) (hg : Gl X x := by rfl) (hn : x ≠ "__name__" := by decide) (hdb : (x == ("__debug__" : Str)) = false := by decide)
    (he : starEach (e :: es) X.env = (false, eval e X.env) :: starEach es X.env := by rfl) (hpl : (backTo pos (starEach es X.env)).any (·.1) = false := by rfl) : ZE X (.Call (.Name x p) (e :: es) [] pos) σ H Q := (pe_callTy call_w hg hm hv pa_wa hn hdb he hpl).w h
/-- a built-in type's method -/
theorem ze_bm0 {T id : String} {name : Str} {apos : Pos} (pl : PlainAttrs T) (slot : Slot T name id) (hty : typeOf (.builtin id) = pure (.type "method_descriptor")) (h : ZE X a σ H fun x H1 => tyV X.K T x H1 ∧ MtW X id x [] H1 Q)
    (hbase : attributeBase a name X.env (eval a X.env) = eval a X.env := by rfl) (hline : (apos.endLine == pos.line) = true := by rfl) : ZE X (.Call (.Attribute a name apos) [] [] pos) σ H Q := (pe_bm0 pl slot hty mt_w pe_we hbase hline).w h
theorem ze_bm {T id : String} {name : Str} {apos : Pos} (pl : PlainAttrs T) (slot : Slot T name id) (hty : typeOf (.builtin id) = pure (.type "method_descriptor")) (h : ZE X a σ H fun x H1 => tyV X.K T x H1 ∧ ZA X (e :: es) σ H1 fun xs H2 => MtW X id x xs H2 Q)
    (hbase : attributeBase a name X.env (eval a X.env) = eval a X.env := by rfl)
    (hfew : ((backTo pos (starEach (e :: es) X.env)).all (fun x => !x.1) && (backToKw pos (keywordEach [] X.env)).all (fun x => x.1.isSome)
      && decide ((e :: es).length + ([] : List Keyword).length + (if ([] : List Keyword).isEmpty then 0 else 1) < 30)) = true := by rfl)
    (hline : (apos.endLine == pos.line) = true := by rfl) (hs : starEach (e :: es) X.env = (false, eval e X.env) :: starEach es X.env := by rfl) (hplain : (backTo pos (starEach es X.env)).any (·.1) = false := by rfl) :
    ZE X (.Call (.Attribute a name apos) (e :: es) [] pos) σ H Q := (pe_bm pl slot hty mt_w pe_we pa_wa hbase hfew hline hs hplain).w h
end

/-! ### calls of the text's own defs -/
/-- the weakest wish of an exception -/
def XW (X : Cx) : WX := fun cls d σ H => ∀ u s' (a : Addr) (B : Heap) (sI : Shared) (pins : List (Addr × Obj)),
    u = .ref a → Inv X pins σ H sI → (∀ b o, sI.heap.get? b = some o → b ∉ frs X.stack → B.get? b = some o) → sI.heap.UpToSlots s'.heap → Sky B X.stack a (L2N.Zn cls d) X.env.locals s'.heap → H a = none → s'.os = sI.os → AllBare s'.gens → X.xe u s'
theorem takes_xw {X : Cx} : L2N.Takes X (XW X) := fun u s' ⟨a, B, sI, pins, σ, H, cls, d, e1, I, h2, h3, h4, h5, h6, h7, w⟩ => w u s' a B sI pins e1 I h2 h3 h4 h5 h6 h7
theorem xw_of {X : Cx} {W : WX} (tk : L2N.Takes X W) {cls : Value} {d : Option Addr} {σ : St} {H : Hp} (h : W cls d σ H) : XW X cls d σ H := fun u s' a B sI pins e1 I h2 h3 h4 h5 h6 h7 => tk u s' ⟨a, B, sI, pins, σ, H, cls, d, e1, I, h2, h3, h4, h5, h6, h7, h⟩
/-- a def as a name of the module, with its promise (the arguments behind the given ones by their defaults) -/
structure Cal (P : Program) (w : World) (K : PySem.W.Frag) (mg : Str → Option Value) (base : Heap) (k : Nat) (x : Str) (sp : Sp) : Prop where
  ex : ∃ (f : Addr) (fd : FuncData) (ps : List Str) (dvs : List V) (ds : List Value) (sp0 : Sp), FnOk P w K mg base (L2N.CX P w) k f fd ps sp0 ∧ mg x = some (.ref f) ∧ PySem.W.keepIn K (.ref f) = true ∧ Binds K fd ps ds ∧ Vals dvs ds ∧ ∀ vs H Q E, sp vs H Q E → sp0 (vs ++ dvs) H Q E
section
variable {X : Cx} {e a : Expr} {es : List Expr} {σ : St} {H : Hp} {Q : VK} {p pos apos : Pos}
theorem zrun {k : Nat} {f : Addr} {fd : FuncData} {ps : List Str} {sp : Sp} {ds : List Value} {dvs : List V} {pins : List (Addr × Obj)} {s : Shared} {us : List Value} {vs : List V} (F : FnOk X.prog X.w X.K X.mg X.base (L2N.CX X.prog X.w) k f fd ps sp) (hr : Room k X.A) (hb : Binds X.K fd ps ds) (hd : Vals dvs ds)
    (I : Inv X pins σ H s) (r : Vals vs us) (h : sp (vs ++ dvs) H Q fun cls d H' => XW X cls d σ H') : wpAny (model X.prog X.w) X.A (call (.ref f) us) (EP X pins σ Q) X.xe s := by
  have rr : Vals (vs ++ dvs) (us ++ ds) := r.append hd
  have hl : (us ++ ds).length = ps.length := by rw [← rr.length]; exact F.len _ _ _ _ h
  refine wpAny_call (codeAny_mono (F.run X.A X.stack s H ⟨us, []⟩ (us ++ ds) (vs ++ dvs) Q _ hr I.env0 (hb s us I.kIn hl) rr h) fun r s' hq => ?_)
  cases r with
  | error e => exact takes_xw e s' (L2N.XE.of_call I (fun cls d H' w => w) hq)
  | ok fl =>
    cases fl with
    | ret u => exact I.after hq
    | next => exact False.elim hq
    | brk => exact False.elim hq
    | cont => exact False.elim hq
theorem ze_call {x : Str} {k j : Nat} {sp : Sp} (c : Cal X.prog X.w X.K X.mg X.base k x sp) (hr : Room j X.A) (hk : k ≤ j) (h : ZA X (e :: es) σ H fun vs H1 => sp vs H1 Q fun cls d H' => XW X cls d σ H') (hg : Gl X x := by rfl)
    (hdb : (x == ("__debug__" : Str)) = false := by decide) (he : starEach (e :: es) X.env = (false, eval e X.env) :: starEach es X.env := by rfl) (hpl : (backTo pos (starEach es X.env)).any (·.1) = false := by rfl) : ZE X (.Call (.Name x p) (e :: es) [] pos) σ H Q := by
  obtain ⟨f, fd, ps, dvs, ds, sp0, F, gm, kp, hb, hd, im⟩ := c.ex
  refine ⟨fun pins s I => ?_⟩
  refine wpAny_Call_Name_kw (ld_glob I hg gm ?_ hdb)
  refine PySem.W.callWith_K (h₀ := X.base) I.ok.mod.kin kp (thn (h.run pos pins s I) fun us s1 ⟨vs, H1, I1, r, q⟩ => ⟨I1.kIn, ?_⟩) he hpl
  exact zrun F (hr.mono hk) hb hd I1 r (im _ _ _ _ q)
theorem ze_call0 {x : Str} {k j : Nat} {sp : Sp} (c : Cal X.prog X.w X.K X.mg X.base k x sp) (hr : Room j X.A) (hk : k ≤ j) (h : sp [] H Q fun cls d H' => XW X cls d σ H') (hg : Gl X x := by rfl)
    (hdb : (x == ("__debug__" : Str)) = false := by decide) : ZE X (.Call (.Name x p) [] [] pos) σ H Q := by
  obtain ⟨f, fd, ps, dvs, ds, sp0, F, gm, kp, hb, hd, im⟩ := c.ex
  refine ⟨fun pins s I => ?_⟩
  refine wpAny_Call_Name_kw (ld_glob I hg gm ?_ hdb)
  exact PySem.W.callWith_K0 I.kIn kp (zrun (us := []) F (hr.mono hk) hb hd I .nil (im _ _ _ _ h))
/-- a method of an own class, with its promise -/
structure CalM (P : Program) (w : World) (K : PySem.W.Frag) (mg : Str → Option Value) (base : Heap) (k : Nat) (C : Addr) (m : Str) (sp : Sp) : Prop where
  ex : ∃ (f : Addr) (fd : FuncData) (ps : List Str) (dvs : List V) (ds : List Value) (sp0 : Sp), FnOk P w K mg base (L2N.CX P w) k f fd ps sp0 ∧ Meth K C m f ∧ Binds K fd ps ds ∧ Vals dvs ds ∧ ∀ vs H Q E, sp vs H Q E → sp0 (vs ++ dvs) H Q E
theorem ze_meth {pl : Sem Bool} {m : Str} {j : Nat} (hr : Room j X.A) (h : ZE X a σ H fun x H1 => ∃ (p C dx : Addr) (fs : List (Str × V)) (k : Nat) (sp : Sp), x = .ref p ∧ H1 p = some (.ins C dx fs) ∧ Cls X.K C ∧ CalM X.prog X.w X.K X.mg X.base k C m sp ∧ k ≤ j ∧ fs.lookup m = none ∧
      ZA X (e :: es) σ H1 fun vs H2 => sp (x :: vs) H2 Q fun cls d H' => XW X cls d σ H')
    (hst : starEach (e :: es) X.env = (false, eval e X.env) :: starEach es X.env := by rfl) (hpl : (backTo pos (starEach es X.env)).any (·.1) = false := by rfl)
    (ht : eval (.Call (.Attribute a m apos) (e :: es) [] pos) X.env = (do
      let ov ← eval a X.env
      standAt apos.atName
      let (f, first) ← holding [ov] (getMethod ov m pl)
      callWith pos f first (backTo pos (starEach (e :: es) X.env)) (backToKw pos (keywordEach [] X.env))) := by rfl) : ZE X (.Call (.Attribute a m apos) (e :: es) [] pos) σ H Q := by
  refine ⟨fun pins s I => ?_⟩
  refine PySem.W.methodCall_KW (pl := pl) (thn (h.run pins s I) fun u s1 ⟨x, H1, I1, rx, p, C, dx, fs, k, sp, ex, ea, c, cm, hk, l, q⟩ => ?_) ht
  subst ex
  obtain rfl : u = Value.ref p := rx
  obtain ⟨f, fd, ps, dvs, ds, sp0, F, hm, hb, hd, im⟩ := cm.ex
  refine getmeth_ok I1 ea c hm l ?_
  refine PySem.W.callWith_K (first := [.ref p]) (h₀ := X.base) I.ok.mod.kin hm.kp (thn (q.run pos pins s1 I1) fun us s2 ⟨vs, H2, I2, r, q2⟩ => ⟨I2.kIn, ?_⟩) hst hpl
  exact zrun (us := .ref p :: us) (vs := .ref p :: vs) F (hr.mono hk) hb hd I2 (.cons rfl r) (im _ _ _ _ q2)
theorem ze_meth0 {pl : Sem Bool} {m : Str} {j : Nat} (hr : Room j X.A) (h : ZE X a σ H fun x H1 => ∃ (p C dx : Addr) (fs : List (Str × V)) (k : Nat) (sp : Sp), x = .ref p ∧ H1 p = some (.ins C dx fs) ∧ Cls X.K C ∧ CalM X.prog X.w X.K X.mg X.base k C m sp ∧ k ≤ j ∧ fs.lookup m = none ∧
      sp [x] H1 Q fun cls d H' => XW X cls d σ H')
    (ht : eval (.Call (.Attribute a m apos) [] [] pos) X.env = (do
      let ov ← eval a X.env
      standAt apos.atName
      let (f, first) ← holding [ov] (getMethod ov m pl)
      callWith pos f first (backTo pos (starEach [] X.env)) (backToKw pos (keywordEach [] X.env))) := by rfl) : ZE X (.Call (.Attribute a m apos) [] [] pos) σ H Q := by
  refine ⟨fun pins s I => ?_⟩
  refine PySem.W.methodCall_KW (pl := pl) (thn (h.run pins s I) fun u s1 ⟨x, H1, I1, rx, p, C, dx, fs, k, sp, ex, ea, c, cm, hk, l, q⟩ => ?_) ht
  subst ex
  obtain rfl : u = Value.ref p := rx
  obtain ⟨f, fd, ps, dvs, ds, sp0, F, hm, hb, hd, im⟩ := cm.ex
  refine getmeth_ok I1 ea c hm l ?_
  refine PySem.W.callWith_K0 (first := [.ref p]) I1.kIn hm.kp ?_
  exact zrun (us := [.ref p]) (vs := [.ref p]) F (hr.mono hk) hb hd I1 (.cons rfl .nil) (im _ _ _ _ q)
end

/-! ### tests -/
section
variable {X : Cx} {e a b c : Expr} {es : List Expr} {st : Stmt} {sts rest : List Stmt} {σ : St} {H : Hp} {nx bk ct : NX} {rt : VK} {pos : Pos} {Q : Bool → Hp → Prop}
theorem zt_cmp {op : CmpOp} (hm : behindInMarks op b = false) (h : ZE X a σ H fun x H1 => ZE X b σ H1 fun y H2 => OpW X σ (compareOp op) x y H2 fun z H3 => ∃ k, z = .bl k ∧ Q k H3) : ZT X (.Compare a [op] [b] pos) σ H Q := by
  refine ⟨fun pins s I => ?_⟩
  refine wpAny_isTrue_Compare1 (thn (h.run pins s I) fun v s1 ⟨x, H1, I1, r1, q1⟩ => thn (q1.run pins s1 I1) fun u s2 ⟨y, H2, I2, r2, q2⟩ => thn (q2.run pins s2 v u I2 r1 r2) fun c s3 ⟨z, H3, I3, r3, k, e, q3⟩ => ?_) hm
  subst e
  cases r3
  exact wpAny_truthy_bool ⟨H3, I3, q3⟩
theorem zt_chain {op op' : CmpOp} (hm : lastMarks [op, op'] [b, c] = false) (h : ZE X a σ H fun x H1 => ZE X b σ H1 fun y H2 => OpW X σ (compareOp op) x y H2 fun z H3 => ∃ k, z = .bl k ∧ (if k = true then ZE X c σ H3 fun w' H4 => OpW X σ (compareOp op') y w' H4 (fun z H5 => ∃ k, z = .bl k ∧ Q k H5) else ∃ k, V.bl false = .bl k ∧ Q k H3)) : ZT X (.Compare a [op, op'] [b, c] pos) σ H Q := by
  refine ⟨fun pins s I => ?_⟩
  refine isTrue_chain (thn (h.run pins s I) fun v s1 ⟨x, H1, I1, r1, q1⟩ => test_link (thn (q1.run pins s1 I1) fun u s2 ⟨y, H2, I2, r2, q2⟩ => thn (q2.run pins s2 v u I2 r1 r2) fun d s3 ⟨z, H3, I3, r3, k, e, q3⟩ => ?_)) hm
  subst e
  cases r3
  refine wpAny_truthy_bool ?_
  cases k with
  | true =>
    refine ite_tt (test_last (thn (q3.run pins s3 I3) fun w' s4 ⟨z', H4, I4, r4, q4⟩ => thn (q4.run pins s4 u w' I4 r2 r4) fun d' s5 ⟨z2, H5, I5, r5, k2, e2, q5⟩ => ?_))
    subst e2
    cases r5
    exact wpAny_truthy_bool ⟨H5, I5, q5⟩
  | false =>
    obtain ⟨k', e', q'⟩ := q3
    cases e'
    exact ite_ff ⟨H3, I3, q'⟩
theorem zt_val (h : ZE X e σ H fun x H1 => ∃ k, x = .bl k ∧ Q k H1) (he : ∀ whole, isTrue e X.env whole = (do let v ← whole; standAt e.pos; holding [v] (truthy v)) := by intro _; rfl) : ZT X e σ H Q := (pt_val pe_we he).w h
theorem zt_truth (h : ZE X e σ H fun x H1 => ∃ k, TruV X.K x H1 k ∧ Q k H1) (he : ∀ whole, isTrue e X.env whole = (do let v ← whole; standAt e.pos; holding [v] (truthy v)) := by intro _; rfl) : ZT X e σ H Q := (pt_truth pe_we he).w h
theorem zt_not (h : ZT X e σ H fun k H1 => Q (!k) H1) : ZT X (.UnaryOp .Not e pos) σ H Q := (pt_not pt_wt).w h
theorem zt_w (h : ZW X e σ H Q) : ZT X e σ H Q := pw_ww.pt.w h
theorem zw_and1 (h : ZT X a σ H Q) : ZW X (.BoolOp .And [a] pos) σ H Q := (pw_and1 pt_wt).w h
theorem zw_or1 (h : ZT X a σ H Q) : ZW X (.BoolOp .Or [a] pos) σ H Q := (pw_or1 pt_wt).w h
theorem zw_and (h : ZT X a σ H fun k H1 => if k = true then ZW X (.BoolOp .And (b :: es) pos) σ H1 Q else Q false H1) : ZW X (.BoolOp .And (a :: b :: es) pos) σ H Q := (pw_and pt_wt pw_ww).w h
theorem zw_or (h : ZT X a σ H fun k H1 => if k = true then Q true H1 else ZW X (.BoolOp .Or (b :: es) pos) σ H1 Q) : ZW X (.BoolOp .Or (a :: b :: es) pos) σ H Q := (pw_or pt_wt pw_ww).w h
theorem zt_and (h : ZT X a σ H fun k H1 => if k = true then ZW X (.BoolOp .And (b :: es) pos) σ H1 Q else Q false H1) : ZT X (.BoolOp .And (a :: b :: es) pos) σ H Q := zt_w (zw_and h)
theorem zt_or (h : ZT X a σ H fun k H1 => if k = true then Q true H1 else ZW X (.BoolOp .Or (b :: es) pos) σ H1 Q) : ZT X (.BoolOp .Or (a :: b :: es) pos) σ H Q := zt_w (zw_or h)

/-! ### statements -/
theorem zss_nil (q : nx σ H) : ZSs X [] nx rt bk ct σ H := pss_nil.w q
theorem zss_cons (h : ZS X st (fun σ' H' => ZSs X rest nx rt bk ct σ' H') rt bk ct σ H) : ZSs X (st :: rest) nx rt bk ct σ H := (pss_cons ps_ws pss_wss).w h
theorem zss_one (h : ZS X st nx rt bk ct σ H) : ZSs X [st] nx rt bk ct σ H := (pss_one ps_ws).w h
theorem zs_pass (q : nx σ H) : ZS X (.Pass pos) nx rt bk ct σ H := ps_pass.w q
theorem zs_break (q : bk σ H) : ZS X (.Break pos) nx rt bk ct σ H := ps_break.w q
theorem zs_continue (q : ct σ H) : ZS X (.Continue pos) nx rt bk ct σ H := ps_continue.w q
theorem zs_expr (h : ZE X e σ H fun _ H1 => nx σ H1) (hs : swapsWith e none pos.line X.env = pure false := by rfl) : ZS X (.Expr e pos) nx rt bk ct σ H := (ps_expr pe_we hs).w h
theorem zs_ret (h : ZE X e σ H rt) : ZS X (.Return (some e) pos) nx rt bk ct σ H := (ps_ret pe_we).w h
theorem zs_retN (q : rt .non H) : ZS X (.Return none pos) nx rt bk ct σ H := ps_retN.w q
theorem zs_if (h : ZT X c σ H fun k H1 => if k = true then ZSs X sts nx rt bk ct σ H1 else ZSs X rest nx rt bk ct σ H1) : ZS X (.If c sts rest pos) nx rt bk ct σ H := (ps_if pt_wt pss_wss pss_wss).w h
theorem zs_asg (h : ZE X e σ H fun x H1 => ZG X a x σ H1 nx) (hs : swapsWithSole [a] e pos.line X.env = pure false := by rfl) (hw : swappedStores [a] e X.env = pure none := by rfl)
    (h1 : (assignEach [a] X.env).map (·.2) = [assign a X.env] := by rfl) : ZS X (.Assign [a] e pos) nx rt bk ct σ H := (ps_asg pe_we pg_wg hs hw h1).w h
theorem zs_set (i : Nat) {x : Str} {pos' : Pos} (hN : X.N.Nodup) (hi : X.N[i]? = some x) (h : ZE X e σ H fun v H1 => nx (σ.set i (some v)) H1) (hx : Loc X.env.scope x := by first | exact Or.inl rfl | exact Or.inr rfl)
    (hs : swapsWith e (some (.Name x pos')) pos.line X.env = pure false := by rfl) (hf : X.fn x = true ∨ X.env.scope.names.lookup x = some .local := by first | exact .inl rfl | exact .inr rfl | assumption) : ZS X (.Assign [.Name x pos'] e pos) nx rt bk ct σ H := (ps_set hN hi hx pe_we hs hf).w h
theorem zs_attr {f : Str} {pos' : Pos} (h : ZE X e σ H fun y H1 => ZE X a σ H1 fun x H2 => ∃ p C dx fs, x = .ref p ∧ H2 p = some (.ins C dx fs) ∧ Cls X.K C ∧ NoAttr X.K C f ∧ fs.length < 1000 ∧ nx σ (upd H2 p (.ins C dx (putF f y fs))))
    (hs : swapsWith e (some (.Attribute a f pos')) pos.line X.env = pure false := by rfl) : ZS X (.Assign [.Attribute a f pos'] e pos) nx rt bk ct σ H := (ps_fld pe_we pe_we hs).w h
theorem zg_name (i : Nat) {x : Str} {v : V} {Q : St → Hp → Prop} (hN : X.N.Nodup) (hi : X.N[i]? = some x) (q : Q (σ.set i (some v)) H) (hx : Loc X.env.scope x := by first | exact Or.inl rfl | exact Or.inr rfl)
    (hf : X.fn x = true ∨ X.env.scope.names.lookup x = some .local := by first | exact .inl rfl | exact .inr rfl | assumption) : ZG X (.Name x pos) v σ H Q := (pg_name hN hi hx hf).w q
theorem zg_tup {k : Nat} {n : Nat} {v : V} {Q : St → Hp → Prop} (hc : X.calm = true) (h : ∃ p xs, v = .ref p ∧ SqT X.K H p xs ∧ xs.length = n ∧ ZGs X es xs σ H Q)
    (hn : (assignEach es X.env).length = n := by rfl) (hst : (assignEach es X.env).findIdx? (·.1) = none := by rfl) : ZG X (.Tuple es k pos) v σ H Q := (pg_tup hc pgs_wgs hn hst).w h
theorem zgs_nil {Q : St → Hp → Prop} (q : Q σ H) : ZGs X [] [] σ H Q := pgs_nil.w ⟨rfl, q⟩
theorem zgs_cons {v : V} {vs : List V} {Q : St → Hp → Prop} (h : ZG X e v σ H fun σ' H' => ZGs X es vs σ' H' Q) (hs : (assignEach (e :: es) X.env).map (·.2) = assign e X.env :: (assignEach es X.env).map (·.2) := by rfl) : ZGs X (e :: es) (v :: vs) σ H Q := (pgs_cons pg_wg pgs_wgs hs).w ⟨v, vs, rfl, h⟩
theorem zg_sub {v : V} {Q : St → Hp → Prop} (h : ZE X a σ H fun o H1 => ZE X b σ H1 fun i H2 => SetW X o i v H2 fun H3 => Q σ H3)
    (ha : ∀ v, assign (.Subscript a b pos) X.env v = (do
      let ov ← holding [v] (eval a X.env)
      let iv ← holding [v, ov] (eval b X.env)
      standAt pos
      holding [v, ov, iv] (setItem ov iv v)
      release [v, ov, iv] []) := by intro _; rfl) : ZG X (.Subscript a b pos) v σ H Q := (pg_sub pe_we pe_we set_w ha).w h
theorem zs_par (i j : Nat) {x y : Str} {px py pt : Pos} {kt k2 pt2} (hc : X.calm = true) (hN : X.N.Nodup) (hi : X.N[i]? = some x) (hj : X.N[j]? = some y) (hij : i ≠ j) (h : ZA X [a, b] σ H fun vs H1 => ∃ v w, vs = [v, w] ∧ nx ((σ.set i (some v)).set j (some w)) H1)
    (hx : X.env.scope.names.lookup x = some .local := by rfl) (hy : X.env.scope.names.lookup y = some .local := by rfl)
    (hw : swappedStores [.Tuple [.Name x px, .Name y py] kt pt] (.Tuple [a, b] k2 pt2) X.env = pure (some [x, y]) := by rfl)
    (hs : swapsWithSole [.Tuple [.Name x px, .Name y py] kt pt] (.Tuple [a, b] k2 pt2) pos.line X.env = pure false := by rfl) :
    ZS X (.Assign [.Tuple [.Name x px, .Name y py] kt pt] (.Tuple [a, b] k2 pt2) pos) nx rt bk ct σ H := (ps_par hc hN hi hj hij hx hy pa_wa hw hs).w h
theorem zs_aug (i : Nat) {x : Str} {v : V} {op : Operator} {pos' : Pos} (hN : X.N.Nodup) (hi : X.N[i]? = some x) (hv : σ[i]? = some (some v)) (h : ZE X e σ H fun y H1 => IpW X op v y H1 fun z H2 => nx (σ.set i (some z)) H2) (hx : Loc X.env.scope x := by first | exact Or.inl rfl | exact Or.inr rfl)
    (hf : X.fn x = true ∨ X.env.scope.names.lookup x = some .local := by first | exact .inl rfl | exact .inr rfl | assumption) : ZS X (.AugAssign (.Name x pos') op e pos) nx rt bk ct σ H := (ps_aug hN hi hx pe_we ip_w hf).w ⟨v, hv, h⟩
theorem zs_while (hp : PassesOwn (model X.prog X.w) X.A X.env X.xe) (h : ∃ W : Nat → St → Hp → Prop, (∃ m, W m σ H) ∧ ∀ m σ H, W m σ H →
  ZT X c σ H fun b H1 => if b = true then ∃ N : St → Hp → Prop, (∀ σ' H', N σ' H' → ∃ m', m' < m ∧ W m' σ' H') ∧ ZSs X sts N rt nx N σ H1 else nx σ H1) : ZS X (.While c sts [] pos) nx rt bk ct σ H := (ps_while hp pt_wt pss_wss).w h
theorem zs_for (hp : PassesOwn (model X.prog X.w) X.A X.env X.xe) (hc : X.calm = true) (h : ZI X a b σ H fun J H1 => ∃ W : Nat → Nat → St → Hp → Prop, (∃ m, W 0 m σ H1) ∧ ∀ i m σ H, W i m σ H →
  (J.stop i H ∧ nx σ H) ∨ (J.go i H ∧ ∃ N : St → Hp → Prop, (∀ σ' H', N σ' H' → ∃ m', m' < m ∧ W (i + 1) m' σ' H') ∧ ∀ x H', J.yld i H x H' → ZG X a x σ H' fun σ2 H2 => ZSs X sts N rt nx N σ2 H2))
    (hs : ∀ x, foldedSetIterable b X.env x = pure x := by intro _; rfl) : ZS X (.For a b sts [] pos) nx rt bk ct σ H := (ps_for hp hc pi_wi pg_wg pss_wss hs).w h
theorem zi_list {R : It → Hp → Prop} (h : ZE X b σ H fun x H1 => ∃ p, x = .ref p ∧ (∃ xs, SqL X.K H1 p xs) ∧ R (Itl X.K p) H1) : ZI X a b σ H R := (pi_list pe_we).w h
theorem zi_tup {R : It → Hp → Prop} (h : ZE X b σ H fun x H1 => ∃ p, x = .ref p ∧ (∃ xs, SqT X.K H1 p xs) ∧ R (Itt X.K p) H1) : ZI X a b σ H R := (pi_tup pe_we).w h
theorem zi_range1 {R : It → Hp → Prop} {p : Pos} (hm : X.mg "range" = none) (h : ZA X [e] σ H fun vs H1 => ∃ j : Int, vs = [.int j] ∧ -(2 ^ 62) ≤ j ∧ j < 2 ^ 62 ∧ R (Itr 0 j.toNat) H1) (hg : Gl X "range" := by rfl) (hs : starEach [e] X.env = [(false, eval e X.env)] := by rfl) : ZI X a (.Call (.Name "range" p) [e] [] pos) σ H R :=
  (pi_range1 hg hm pa_wa hs).w h
theorem zi_range2 {R : It → Hp → Prop} {p : Pos} (hm : X.mg "range" = none) (h : ZA X [e, b] σ H fun vs H1 => ∃ i j : Int, vs = [.int i, .int j] ∧ (-(2 ^ 62) ≤ i ∧ i < 2 ^ 62 ∧ -(2 ^ 62) ≤ j ∧ j < 2 ^ 62) ∧ R (Itr i (j - i).toNat) H1) (hg : Gl X "range" := by rfl) (hs : starEach [e, b] X.env = [(false, eval e X.env), (false, eval b X.env)] := by rfl) (hs2 : starEach [b] X.env = [(false, eval b X.env)] := by rfl) : ZI X a (.Call (.Name "range" p) [e, b] [] pos) σ H R :=
  (pi_range2 hg hm pa_wa hs hs2).w h

/-! ### raise, try -/
theorem zs_raise {c : Expr} {x : Str} {C fI : Addr} {nms : List Str} {j : Nat} {p pos2 : Pos} (hc : X.calm = true) (T : PySem.LX.ExcT X.K C) (iC : PySem.W.findIn X.K (.ref C) "__init__" = some (some (.ref fI))) (tC : PySem.W.typeIn X.K (.ref fI) = some (.type "function"))
    (IR : PySem.LX.InitRuns X.prog X.K X.mg C fI nms) (gC : X.mg x = some (.ref C)) (hr : Room j X.A)
    (h : ZA X (e :: es) σ H fun vs H1 => vs.length = nms.length ∧ nms.length ≤ 10 ∧ ∀ d, H1 d = none → XW X (.ref C) (some d) σ (upd H1 d (.xd (nms.zip vs).reverse))) (hg : Gl X x := by rfl)
    (hdb : (x == ("__debug__" : Str)) = false := by decide) (he : starEach (e :: es) X.env = (false, eval e X.env) :: starEach es X.env := by rfl) (hpl : (backTo pos (starEach es X.env)).any (·.1) = false := by rfl) :
    ZS X (.Raise (some (.Call (.Name x p) (e :: es) [] pos)) none pos2) nx rt bk ct σ H := (L2N.ps_raise hc takes_xw (pmk_x T iC tC IR gC hr pa_wa hg hdb he hpl)).w h
theorem zs_try_as {x n : Str} {k : Value} {i : Nat} {body suite : List Stmt} {b₀ : Stmt} {np pos' : Pos} (hs : X.stack = X.env :: X.outer) (hf : X.env.frame = some X.env.locals) (hN : X.N.Nodup) (hi : X.N[i]? = some n) (hln : X.env.kindOf n = some .local) (hc : Names X x k)
    (h : ∀ (pn : List (Addr × Obj)) (xe : Value → Shared → Prop), L2N.Takes (X.tr pn xe) (wAs X.K k i (fun a cls d D σ H => ∀ (oe : Obj) (pn : List (Addr × Obj)), L2N.Zn cls d oe → (∃ vs, oe.data = .fields vs) → ZSs (X.suite a ((a, oe) :: pn)) (b₀ :: suite) D.nx D.rt D.bk D.ct σ H) (XW X) ⟨nx, rt, bk, ct⟩) →
      PassesOwn (model X.prog X.w) X.A X.env xe → ZSs (X.tr pn xe) body nx rt bk ct σ H) :
    ZS X (.Try body [.ExceptHandler (some (.Name x np)) (some n) (b₀ :: suite) pos'] [] [] pos) nx rt bk ct σ H :=
  (L2N.ps_try_as (tb := fun W D σ H => ∀ (pn : List (Addr × Obj)) (xe : Value → Shared → Prop), L2N.Takes (X.tr pn xe) W → PassesOwn (model X.prog X.w) X.A X.env xe → ZSs (X.tr pn xe) body D.nx D.rt D.bk D.ct σ H) hs hf hN hi hln hc takes_xw
    (fun W pn xe tk hp => ⟨fun pins s σ H D I h => (h pn xe tk hp).run pins s I⟩) (fun a oe cls d pn hz hf => ⟨fun pins s σ H D I h => (h oe pn hz hf).run pins s I⟩)).w h
end

/-! ### the entry of a def -/
section
variable {P : Program} {w : World} {K : PySem.W.Frag} {mg : Str → Option Value} {base : Heap}
/-- the context of a def's body -/
abbrev cxN (P : Program) (w : World) (K : PySem.W.Frag) (mg : Str → Option Value) (base : Heap) (N : List Str) (qual : Str) (scope : Scope) (f : Addr) (cd : Value) (A : Around) (outer : List Env) (s : Shared) (H : Hp) (E : XK) : Cx := cxOf (L2N.CX P w) P w K mg base N qual scope f cd A outer s H E
theorem Fun.okN {x qual : Str} {st : Stmt} {f : Addr} {fd : FuncData} {N ps : List Str} {k : Nat} {sp : Sp} (F : Fun K x qual st f fd) (S : FnScope N ps (defScope st)) (len : ∀ vs H Q E, sp vs H Q E → vs.length = ps.length)
    (hbody : ∀ (cdv : Value) (A : Around) (outer : List Env) (s : Shared) (H : Hp) (vs : List V) (Q : VK) (E : XK), Room k (A.deeper (envOfC qual (defScope st) s.heap.objs.size f cdv)) → sp vs H Q E →
      ZSs (cxN P w K mg base N qual (defScope st) f cdv A outer s H E) (defBody st) (fun _ H' => Q .non H') Q (fun _ _ => False) (fun _ _ => False) (start N vs) H) : FnOk P w K mg base (L2N.CX P w) (k + 1) f fd ps sp := by
  obtain ⟨oc, od, kV, doc, pm, an, cdv, ct, osl, rfl, lk, hcd⟩ := F.ex
  exact fn_of lk hcd S len fun A outer s H vs Q E hr hsp => ⟨_, pss_wss, hbody cdv A outer s H vs Q E hr hsp⟩
theorem FunD.okN {x qual : Str} {params : Arguments} {body : List Stmt} {scope : Scope} {dvs : List V} {kws : List (Str × V)} {f : Addr} {fd : FuncData} {N ps : List Str} {k : Nat} {sp : Sp} (F : FunD K x qual params body scope dvs kws f fd) (S : FnScope N ps scope) (len : ∀ vs H Q E, sp vs H Q E → vs.length = ps.length)
    (hbody : ∀ (cdv : Value) (A : Around) (outer : List Env) (s : Shared) (H : Hp) (vs : List V) (Q : VK) (E : XK), Room k (A.deeper (envOfC qual scope s.heap.objs.size f cdv)) → sp vs H Q E →
      ZSs (cxN P w K mg base N qual scope f cdv A outer s H E) body (fun _ H' => Q .non H') Q (fun _ _ => False) (fun _ _ => False) (start N vs) H) : FnOk P w K mg base (L2N.CX P w) (k + 1) f fd ps sp :=
  F.ok S len fun cdv A outer s H vs Q E hr hsp => ⟨_, pss_wss, hbody cdv A outer s H vs Q E hr hsp⟩
/-- at the level of a def an exception leaves it -/
theorem xw_def {N : List Str} {qual : Str} {scope : Scope} {f : Addr} {cd : Value} {A : Around} {outer : List Env} {s : Shared} {H0 : Hp} {E : XK} {cls : Value} {d : Option Addr} {σ : St} {H : Hp} (h : E cls d H) : XW (cxN P w K mg base N qual scope f cd A outer s H0 E) cls d σ H :=
  xw_of (L2N.takes_of rfl rfl rfl rfl) h
theorem pass_def {N : List Str} {qual : Str} {scope : Scope} {f : Addr} {cd : Value} {A : Around} {outer : List Env} {s : Shared} {H0 : Hp} {E : XK} : PassesOwn (model P w) (cxN P w K mg base N qual scope f cd A outer s H0 E).A (cxN P w K mg base N qual scope f cd A outer s H0 E).env (cxN P w K mg base N qual scope f cd A outer s H0 E).xe := passes_of rfl
end
end L2

/-! The values' rules. -/
namespace L2
open PySem PySem.Spec PyProof.Rows
section
variable {X : Cx} {H : Hp} {Q : VK} {i j : Int} {x y : V} {p q : Addr} {xs ys : List V} {z w : Str}
theorem ow_add (h : Q (.int (i + j)) H) : OpW X σ (binaryOp .Add) (.int i) (.int j) H Q := op_add.w ⟨i, j, rfl, rfl, h⟩
theorem ow_sub (h : Q (.int (i - j)) H) : OpW X σ (binaryOp .Sub) (.int i) (.int j) H Q := op_sub.w ⟨i, j, rfl, rfl, h⟩
theorem ow_mul (hc : CMul i j) (h : Q (.int (i * j)) H) : OpW X σ (binaryOp .Mult) (.int i) (.int j) H Q := op_mul.w ⟨i, j, rfl, rfl, hc, h⟩
theorem ow_mulW (hc : CMulW i j) (h : Q (.int (i * j)) H) : OpW X σ (binaryOp .Mult) (.int i) (.int j) H Q := op_mulW.w ⟨i, j, rfl, rfl, hc, h⟩
theorem ow_mod (hc : 0 < j) (h : Q (.int (i % j)) H) : OpW X σ (binaryOp .Mod) (.int i) (.int j) H Q := op_mod.w ⟨i, j, rfl, rfl, hc, h⟩
theorem ow_fdiv (hc : CDiv i j) (h : Q (.int (i / j)) H) : OpW X σ (binaryOp .FloorDiv) (.int i) (.int j) H Q := op_fdiv.w ⟨i, j, rfl, rfl, hc, h⟩
theorem ow_fdivW (hc : CDivW i j) (h : Q (.int (i / j)) H) : OpW X σ (binaryOp .FloorDiv) (.int i) (.int j) H Q := op_fdivW.w ⟨i, j, rfl, rfl, hc, h⟩
theorem ow_pow (hc : CPow i j) (h : Q (.int (i ^ j.toNat)) H) : OpW X σ (binaryOp .Pow) (.int i) (.int j) H Q := op_pow.w ⟨i, j, rfl, rfl, hc, h⟩
theorem ow_adds (hc : z.length + w.length ≤ sizeLine) (h : Q (.str (z ++ w)) H) : OpW X σ (binaryOp .Add) (.str z) (.str w) H Q := op_add_str.w ⟨z, w, rfl, rfl, hc, h⟩
theorem ow_addl (h1 : H p = some (.lst xs)) (h2 : H q = some (.lst ys)) (hc : xs.length + ys.length ≤ sizeLine) (h : ∀ r, H r = none → Q (.ref r) (upd H r (.lst (xs ++ ys)))) : OpW X σ (binaryOp .Add) (.ref p) (.ref q) H Q := op_cat.w ⟨p, q, xs, ys, rfl, rfl, h1, h2, hc, h⟩
theorem ow_repl (h1 : H p = some (.lst xs)) (hc : -(2 ^ 63) ≤ i ∧ i < 2 ^ 63 ∧ xs.length * i.toNat ≤ sizeLine) (h : ∀ r, H r = none → Q (.ref r) (upd H r (.lst (List.replicate i.toNat xs).flatten))) : OpW X σ (binaryOp .Mult) (.ref p) (.int i) H Q := op_rep.w ⟨p, i, xs, rfl, rfl, h1, hc.1, hc.2.1, hc.2.2, h⟩
theorem ow_lt (h : Q (.bl (decide (i < j))) H) : OpW X σ (compareOp .Lt) (.int i) (.int j) H Q := op_lt.w ⟨i, j, rfl, rfl, h⟩
theorem ow_le (h : Q (.bl (decide (i ≤ j))) H) : OpW X σ (compareOp .LtE) (.int i) (.int j) H Q := op_le.w ⟨i, j, rfl, rfl, h⟩
theorem ow_gt (h : Q (.bl (decide (j < i))) H) : OpW X σ (compareOp .Gt) (.int i) (.int j) H Q := op_gt.w ⟨i, j, rfl, rfl, h⟩
theorem ow_ge (h : Q (.bl (decide (j ≤ i))) H) : OpW X σ (compareOp .GtE) (.int i) (.int j) H Q := op_ge.w ⟨i, j, rfl, rfl, h⟩
theorem ow_eqi (h : Q (.bl (decide (i = j))) H) : OpW X σ (compareOp .Eq) (.int i) (.int j) H Q := op_eq.w ⟨rfl, by
  have e : decide (V.int i = V.int j) = decide (i = j) := by simp
  rw [e]; exact h⟩
theorem ow_nei (h : Q (.bl (!decide (i = j))) H) : OpW X σ (compareOp .NotEq) (.int i) (.int j) H Q := op_ne.w ⟨rfl, by
  have e : decide (V.int i = V.int j) = decide (i = j) := by simp
  rw [e]; exact h⟩
theorem ow_eqs (h : Q (.bl (decide (z = w))) H) : OpW X σ (compareOp .Eq) (.str z) (.str w) H Q := op_eq.w ⟨rfl, by
  have e : decide (V.str z = V.str w) = decide (z = w) := by simp
  rw [e]; exact h⟩
theorem ow_nes (h : Q (.bl (!decide (z = w))) H) : OpW X σ (compareOp .NotEq) (.str z) (.str w) H Q := op_ne.w ⟨rfl, by
  have e : decide (V.str z = V.str w) = decide (z = w) := by simp
  rw [e]; exact h⟩
theorem ow_eqb {a b : Bool} (h : Q (.bl (decide (a = b))) H) : OpW X σ (compareOp .Eq) (.bl a) (.bl b) H Q := op_eq.w ⟨rfl, by
  have e : decide (V.bl a = V.bl b) = decide (a = b) := by simp
  rw [e]; exact h⟩
theorem ow_neb {a b : Bool} (h : Q (.bl (!decide (a = b))) H) : OpW X σ (compareOp .NotEq) (.bl a) (.bl b) H Q := op_ne.w ⟨rfl, by
  have e : decide (V.bl a = V.bl b) = decide (a = b) := by simp
  rw [e]; exact h⟩
theorem ow_isN (h : Q (.bl (decide (x = .non))) H) : OpW X σ (compareOp .Is) x .non H Q := op_isN.w ⟨rfl, h⟩
theorem ow_notN (h : Q (.bl (!decide (x = .non))) H) : OpW X σ (compareOp .IsNot) x .non H Q := op_notN.w ⟨rfl, h⟩
theorem ow_in (hs : SqL X.K H p xs ∨ SqT X.K H p xs) (hx : flatV x = true) (ha : xs.all flatV = true) (h : Q (.bl (inV x xs)) H) : OpW X σ (compareOp .In) x (.ref p) H Q := op_in_seq.w ⟨p, xs, rfl, hs, hx, ha, h⟩
theorem ow_notin (hs : SqL X.K H p xs ∨ SqT X.K H p xs) (hx : flatV x = true) (ha : xs.all flatV = true) (h : Q (.bl (!inV x xs)) H) : OpW X σ (compareOp .NotIn) x (.ref p) H Q := op_notIn_seq.w ⟨p, xs, rfl, hs, hx, ha, h⟩
theorem uw_neg (h : Q (.int (-i)) H) : UnW X (unaryOp .USub) (.int i) H Q := un_neg.w ⟨i, rfl, h⟩
theorem cw_lenq (hs : SqL X.K H p xs ∨ SqT X.K H p xs) (h : Q (.int xs.length) H) : CallW X (.builtin "len") [.ref p] H Q := call_len_seq.w ⟨p, xs, rfl, hs, h⟩
theorem cw_lens (hs : z.length ≤ sizeLine) (h : Q (.int z.length) H) : CallW X (.builtin "len") [.str z] H Q := call_len_str.w ⟨z, rfl, hs, h⟩
theorem cw_abs (h : Q (.int (if i < 0 then -i else i)) H) : CallW X (.builtin "abs") [.int i] H Q := call_abs.w ⟨i, rfl, h⟩
theorem cw_int (h : Q (.int i) H) : CallW X (.type "int") [.int i] H Q := call_int1.w (.inl ⟨i, rfl, h⟩)
theorem cw_intb {b : Bool} (h : Q (.int (if b then 1 else 0)) H) : CallW X (.type "int") [.bl b] H Q := call_int1.w (.inr ⟨b, rfl, h⟩)
theorem cw_booli (h : Q (.bl (i != 0)) H) : CallW X (.type "bool") [.int i] H Q := call_bool1.w (.inl ⟨i, rfl, h⟩)
theorem cw_boolb {b : Bool} (h : Q (.bl b) H) : CallW X (.type "bool") [.bl b] H Q := call_bool1.w (.inr ⟨b, rfl, h⟩)
theorem cw_isi {c : V} {t u : Value} {b : Bool} (hc : ClsV c u) (hx : TyX X.K H x t) (hk : PySem.W.kitOne X.K t u = some b) (h : Q (.bl b) H) : CallW X (.builtin "isinstance") [x, c] H Q := call_isi.w ⟨x, c, t, u, b, rfl, hc, hx, hk, h⟩
theorem cw_tuple (hs : SqL X.K H p xs) (h : ∀ r, H r = none → Q (.ref r) (upd H r (.tup xs))) : CallW X (.type "tuple") [.ref p] H Q := call_tuple_of.w ⟨p, xs, rfl, .inl ⟨hs, h⟩⟩
theorem cw_list (hs : SqL X.K H p xs ∨ SqT X.K H p xs) (h : ∀ r, H r = none → Q (.ref r) (upd H r (.lst xs))) : CallW X (.type "list") [.ref p] H Q := call_list_of.w ⟨p, xs, rfl, hs, h⟩
theorem cw_max2 (hc : X.calm = true) (h : Q (.int (if j > i then j else i)) H) : CallW X (.builtin "max") [.int i, .int j] H Q := (call_max2 hc).w ⟨i, j, rfl, h⟩
theorem cw_min2 (hc : X.calm = true) (h : Q (.int (if j < i then j else i)) H) : CallW X (.builtin "min") [.int i, .int j] H Q := (call_min2 hc).w ⟨i, j, rfl, h⟩
theorem cw_divmod (hc : CDiv i j) (h : ∀ r, H r = none → Q (.ref r) (upd H r (.tup [.int (i / j), .int (i % j)]))) : CallW X (.builtin "divmod") [.int i, .int j] H Q := call_divmod.w ⟨i, j, rfl, hc, h⟩
theorem xw_lst {v : V} (hs : SqL X.K H p xs) (hi : atI xs i = some v) (h : Q v H) : IxW X σ (.ref p) (.int i) H Q := ix_list.w ⟨p, xs, i, v, rfl, rfl, hs, hi, h⟩
theorem xw_tup {v : V} (hs : SqT X.K H p xs) (hi : atI xs i = some v) (h : Q v H) : IxW X σ (.ref p) (.int i) H Q := ix_tup.w ⟨p, xs, i, v, rfl, rfl, hs, hi, h⟩
theorem xw_str {c : Nat} (hz : z.length ≤ sizeLine) (hi : atI z.cps.toList i = some c) (h : Q (.str ⟨#[c]⟩) H) : IxW X σ (.str z) (.int i) H Q := ix_str.w ⟨z, i, c, rfl, rfl, hz, hi, h⟩
theorem sw_lst {v : V} {n : Nat} {Q : Hp → Prop} (hs : H p = some (.lst xs)) (hi : ixN xs.length i = some n) (h : Q (upd H p (.lst (xs.set n v)))) : SetW X (.ref p) (.int i) v H Q := set_list.w ⟨p, xs, i, n, rfl, rfl, hs, hi, h⟩
theorem mw_append (hs : H p = some (.lst xs)) (hz : xs.length < sizeLine) (h : Q .non (upd H p (.lst (xs ++ [y])))) : MtW X "list.append" (.ref p) [y] H Q := (show MtR X "list.append" rAppend from mt_append).w ⟨p, xs, y, rfl, rfl, hs, hz, h⟩
theorem aw_fld {C dx : Addr} {fs : List (Str × V)} {f : Str} {v : V} (e : H p = some (.ins C dx fs)) (c : Cls X.K C) (n : NoAttr X.K C f) (l : fs.lookup f = some v) (h : Q v H) : AtW X f (.ref p) H Q := ⟨fun pins s σ u I ru => by
  obtain rfl : u = Value.ref p := ru
  exact getattr_ok I e c n l fun u' s2 I2 ru => ⟨v, H, I2, ru, h⟩⟩
theorem aw_con {C dx : Addr} {fs : List (Str × V)} {f : Str} {v : V} {u0 : Value} (e : H p = some (.ins C dx fs)) (c : Cls X.K C) (k : Con X.K C f v u0) (l : fs.lookup f = none) (h : Q v H) : AtW X f (.ref p) H Q := ⟨fun pins s σ u I ru => by
  obtain rfl : u = Value.ref p := ru
  exact getcon_ok I e c k l fun s2 I2 => ⟨v, H, I2, k.rel, h⟩⟩
theorem iw_add (h : Q (.int (i + j)) H) : IpW X .Add (.int i) (.int j) H Q := ip_add.w ⟨i, j, rfl, rfl, h⟩
theorem iw_sub (h : Q (.int (i - j)) H) : IpW X .Sub (.int i) (.int j) H Q := ip_sub.w ⟨i, j, rfl, rfl, h⟩
theorem slw_lst {lo hi : Option Int} (hs : SqL X.K H p xs) (h : ∀ r, H r = none → Q (.ref r) (upd H r (.lst (cutV xs lo hi)))) : SlW X (.ref p) lo hi H Q := sl_list.w ⟨p, xs, rfl, hs, h⟩
theorem slw_str {lo hi : Option Int} (hz : z.length ≤ sizeLine) (h : Q (.str (cutS z lo hi)) H) : SlW X (.str z) lo hi H Q := sl_str.w ⟨z, rfl, hz, h⟩
end
/-- the built-in names that the text leaves as they are -/
structure Blt (mg : Str → Option Value) : Prop where
  len : mg "len" = none
  int : mg "int" = none
  abs : mg "abs" = none
  isi : mg "isinstance" = none
  range : mg "range" = none
  boo : mg "bool" = none
  str : mg "str" = none
  lst : mg "list" = none
  tup : mg "tuple" = none
  max : mg "max" = none
  min : mg "min" = none
  zip : mg "zip" = none
  srt : mg "sorted" = none
  rev : mg "reversed" = none
  dm : mg "divmod" = none
  enu : mg "enumerate" = none
  sum : mg "sum" = none
  ve : mg "ValueError" = none
section
variable {X : Cx} {e b : Expr} {es : List Expr} {σ : St} {H : Hp} {Q : VK} {p pos : Pos}
theorem zc_len (B : Blt X.mg) (h : ZA X (e :: es) σ H fun vs H1 => CallW X (.builtin "len") vs H1 Q) (hg : Gl X "len" := by rfl) (he : starEach (e :: es) X.env = (false, eval e X.env) :: starEach es X.env := by rfl) (hpl : (backTo pos (starEach es X.env)).any (·.1) = false := by rfl) : ZE X (.Call (.Name "len" p) (e :: es) [] pos) σ H Q := ze_callB B.len boot_len h hg (by decide) (by decide) he hpl
theorem zc_abs (B : Blt X.mg) (h : ZA X (e :: es) σ H fun vs H1 => CallW X (.builtin "abs") vs H1 Q) (hg : Gl X "abs" := by rfl) (he : starEach (e :: es) X.env = (false, eval e X.env) :: starEach es X.env := by rfl) (hpl : (backTo pos (starEach es X.env)).any (·.1) = false := by rfl) : ZE X (.Call (.Name "abs" p) (e :: es) [] pos) σ H Q := ze_callB B.abs (by decide +kernel) h hg (by decide) (by decide) he hpl
theorem zc_isi (B : Blt X.mg) (h : ZA X (e :: es) σ H fun vs H1 => CallW X (.builtin "isinstance") vs H1 Q) (hg : Gl X "isinstance" := by rfl) (he : starEach (e :: es) X.env = (false, eval e X.env) :: starEach es X.env := by rfl) (hpl : (backTo pos (starEach es X.env)).any (·.1) = false := by rfl) : ZE X (.Call (.Name "isinstance" p) (e :: es) [] pos) σ H Q := ze_callB B.isi (by decide +kernel) h hg (by decide) (by decide) he hpl
theorem zc_max (B : Blt X.mg) (h : ZA X (e :: es) σ H fun vs H1 => CallW X (.builtin "max") vs H1 Q) (hg : Gl X "max" := by rfl) (he : starEach (e :: es) X.env = (false, eval e X.env) :: starEach es X.env := by rfl) (hpl : (backTo pos (starEach es X.env)).any (·.1) = false := by rfl) : ZE X (.Call (.Name "max" p) (e :: es) [] pos) σ H Q := ze_callB B.max (by decide +kernel) h hg (by decide) (by decide) he hpl
theorem zc_min (B : Blt X.mg) (h : ZA X (e :: es) σ H fun vs H1 => CallW X (.builtin "min") vs H1 Q) (hg : Gl X "min" := by rfl) (he : starEach (e :: es) X.env = (false, eval e X.env) :: starEach es X.env := by rfl) (hpl : (backTo pos (starEach es X.env)).any (·.1) = false := by rfl) : ZE X (.Call (.Name "min" p) (e :: es) [] pos) σ H Q := ze_callB B.min (by decide +kernel) h hg (by decide) (by decide) he hpl
theorem zc_dm (B : Blt X.mg) (h : ZA X (e :: es) σ H fun vs H1 => CallW X (.builtin "divmod") vs H1 Q) (hg : Gl X "divmod" := by rfl) (he : starEach (e :: es) X.env = (false, eval e X.env) :: starEach es X.env := by rfl) (hpl : (backTo pos (starEach es X.env)).any (·.1) = false := by rfl) : ZE X (.Call (.Name "divmod" p) (e :: es) [] pos) σ H Q := ze_callB B.dm (by decide +kernel) h hg (by decide) (by decide) he hpl
theorem zc_int (B : Blt X.mg) (h : ZA X (e :: es) σ H fun vs H1 => CallW X (.type "int") vs H1 Q) (hg : Gl X "int" := by rfl) (he : starEach (e :: es) X.env = (false, eval e X.env) :: starEach es X.env := by rfl) (hpl : (backTo pos (starEach es X.env)).any (·.1) = false := by rfl) : ZE X (.Call (.Name "int" p) (e :: es) [] pos) σ H Q := ze_callT B.int (by decide +kernel) h hg (by decide) (by decide) he hpl
theorem zc_boo (B : Blt X.mg) (h : ZA X (e :: es) σ H fun vs H1 => CallW X (.type "bool") vs H1 Q) (hg : Gl X "bool" := by rfl) (he : starEach (e :: es) X.env = (false, eval e X.env) :: starEach es X.env := by rfl) (hpl : (backTo pos (starEach es X.env)).any (·.1) = false := by rfl) : ZE X (.Call (.Name "bool" p) (e :: es) [] pos) σ H Q := ze_callT B.boo (by decide +kernel) h hg (by decide) (by decide) he hpl
theorem zc_tup (B : Blt X.mg) (h : ZA X (e :: es) σ H fun vs H1 => CallW X (.type "tuple") vs H1 Q) (hg : Gl X "tuple" := by rfl) (he : starEach (e :: es) X.env = (false, eval e X.env) :: starEach es X.env := by rfl) (hpl : (backTo pos (starEach es X.env)).any (·.1) = false := by rfl) : ZE X (.Call (.Name "tuple" p) (e :: es) [] pos) σ H Q := ze_callT B.tup (by decide +kernel) h hg (by decide) (by decide) he hpl
theorem zc_lst (B : Blt X.mg) (h : ZA X (e :: es) σ H fun vs H1 => CallW X (.type "list") vs H1 Q) (hg : Gl X "list" := by rfl) (he : starEach (e :: es) X.env = (false, eval e X.env) :: starEach es X.env := by rfl) (hpl : (backTo pos (starEach es X.env)).any (·.1) = false := by rfl) : ZE X (.Call (.Name "list" p) (e :: es) [] pos) σ H Q := ze_callT B.lst (by decide +kernel) h hg (by decide) (by decide) he hpl
theorem zc_str (B : Blt X.mg) (h : ZA X (e :: es) σ H fun vs H1 => CallW X (.type "str") vs H1 Q) (hg : Gl X "str" := by rfl) (he : starEach (e :: es) X.env = (false, eval e X.env) :: starEach es X.env := by rfl) (hpl : (backTo pos (starEach es X.env)).any (·.1) = false := by rfl) : ZE X (.Call (.Name "str" p) (e :: es) [] pos) σ H Q := ze_callT B.str (by decide +kernel) h hg (by decide) (by decide) he hpl
/-- a built-in class as a value -/
theorem zn_int (B : Blt X.mg) (h : Q (.ty "int") H) (hg : Gl X "int" := by rfl) : ZE X (.Name "int" pos) σ H Q := ze_bltn B.int (v := .ty "int") (u := .type "int") (by decide +kernel) rfl h hg (by decide) (by decide)
theorem zn_boo (B : Blt X.mg) (h : Q (.ty "bool") H) (hg : Gl X "bool" := by rfl) : ZE X (.Name "bool" pos) σ H Q := ze_bltn B.boo (v := .ty "bool") (u := .type "bool") (by decide +kernel) rfl h hg (by decide) (by decide)
theorem zn_str (B : Blt X.mg) (h : Q (.ty "str") H) (hg : Gl X "str" := by rfl) : ZE X (.Name "str" pos) σ H Q := ze_bltn B.str (v := .ty "str") (u := .type "str") (by decide +kernel) rfl h hg (by decide) (by decide)
theorem zn_lst (B : Blt X.mg) (h : Q (.ty "list") H) (hg : Gl X "list" := by rfl) : ZE X (.Name "list" pos) σ H Q := ze_bltn B.lst (v := .ty "list") (u := .type "list") (by decide +kernel) rfl h hg (by decide) (by decide)
theorem zn_tup (B : Blt X.mg) (h : Q (.ty "tuple") H) (hg : Gl X "tuple" := by rfl) : ZE X (.Name "tuple" pos) σ H Q := ze_bltn B.tup (v := .ty "tuple") (u := .type "tuple") (by decide +kernel) rfl h hg (by decide) (by decide)
theorem zn_ve (B : Blt X.mg) (h : Q (.ty "ValueError") H) (hg : Gl X "ValueError" := by rfl) : ZE X (.Name "ValueError" pos) σ H Q := ze_bltn B.ve (v := .ty "ValueError") (u := .type "ValueError") (by decide +kernel) rfl h hg (by decide) (by decide)
end
end L2
namespace L2
theorem zite_d {c A B : Prop} [Decidable c] (h1 : c → A) (h2 : ¬ c → B) : if decide c = true then A else B := by
  by_cases h : c
  · rw [if_pos (decide_eq_true h)]; exact h1 h
  · rw [if_neg (by simp [h])]; exact h2 h
theorem zite_n {c A B : Prop} [Decidable c] (h1 : ¬ c → A) (h2 : c → B) : if (!decide c) = true then A else B := by
  by_cases h : c
  · rw [if_neg (by simp [h])]; exact h2 h
  · rw [if_pos (by simp [h])]; exact h1 h
theorem zite_b {b : Bool} {A B : Prop} (h1 : b = true → A) (h2 : b = false → B) : if b = true then A else B := by
  cases b
  · exact h2 rfl
  · exact h1 rfl
theorem zite_nb {b : Bool} {A B : Prop} (h1 : b = false → A) (h2 : b = true → B) : if (!b) = true then A else B := by
  cases b
  · exact h1 rfl
  · exact h2 rfl
end L2
namespace L2
open PySem PySem.Spec PyProof.Rows
theorem atI_lt {α : Type} {xs : List α} {i : Int} (h0 : 0 ≤ i) (h1 : i < xs.length) : ∃ v, xs[i.toNat]? = some v ∧ atI xs i = some v := by
  have h2 : i.toNat < xs.length := by omega
  refine ⟨xs[i.toNat], List.getElem?_eq_getElem h2, ?_⟩
  have := atI_nat (j := i.toNat) (List.getElem?_eq_getElem h2)
  rwa [Int.toNat_of_nonneg h0] at this
theorem map_get {α β : Type} {f : α → β} {xs : List α} {n : Nat} {v : β} (h : (xs.map f)[n]? = some v) : ∃ x, xs[n]? = some x ∧ v = f x := by
  rw [List.getElem?_map] at h
  cases e : xs[n]? with
  | none => rw [e] at h; cases h
  | some x => rw [e] at h; exact ⟨x, rfl, (Option.some.inj h).symm⟩
/-- the law's source: its object, by its places (the script's list at q) -/
def SrcO (p q : Addr) : HO := .ext fun h => ∃ (i x1 x2 x3 : Int) (t0 t1 t2 t3 : Tok) (n : Nat), 0 ≤ i ∧ h.get? p = some { cls := .type "list", data := .seq #[.int i t0, .int x1 t1, .int x2 t2, .int x3 t3, .ref q] n }
def Src (H : Hp) (p : Addr) : Prop := ∃ (q : Addr) (ns : List Int), H p = some (SrcO p q) ∧ H q = some (.lst (ns.map V.int)) ∧ ns.length ≤ 1000
def srcL (i x1 x2 x3 : Int) (q : Addr) : HO := .lst [.int i, .int x1, .int x2, .int x3, .ref q]
def spDraw1 : Sp := fun vs H Q _ => ∃ (p q : Addr) (many i x1 x2 x3 : Int) (ns : List Int), vs = [.ref p, .int many] ∧ 0 < many ∧ many < 1073741824 ∧ H p = some (srcL i x1 x2 x3 q) ∧ 0 ≤ i ∧ H q = some (.lst (ns.map V.int)) ∧ ns.length ≤ 1000 ∧
  ∀ v i' x1' x2' x3', 0 ≤ v → v < many → 0 ≤ i' → Q (.int v) (upd H p (srcL i' x1' x2' x3' q))
def spDraw : Sp := fun vs H Q _ => ∃ (p : Addr) (many : Int), vs = [.ref p, .int many] ∧ 0 < many ∧ many < 1073741824 ∧ Src H p ∧ ∀ v, 0 ≤ v → v < many → Q (.int v) H
def spSrc1 (K : PySem.W.Frag) : Sp := fun vs H Q _ => ∃ (a : Addr) (ns : List Int), vs = [.ref a] ∧ SqL K H a (ns.map V.int) ∧ ns.length ≤ 1000 ∧ ∀ p q H', H p = none → H q = none → Same H H' → p ≠ q → H' p = some (srcL 0 0 0 0 q) → H' q = some (.lst (ns.map V.int)) → Q (.ref p) H'
def spSrc (K : PySem.W.Frag) : Sp := fun vs H Q _ => ∃ (a : Addr) (ns : List Int), vs = [.ref a] ∧ SqL K H a (ns.map V.int) ∧ ns.length ≤ 1000 ∧ ∀ p H', H p = none → Same H H' → Src H' p → Q (.ref p) H'
theorem ext_ne_tup {φ : Heap → Prop} {xs : List V} : HO.ext φ ≠ .tup xs := fun z => by cases z
theorem ext_ne_own {φ : Heap → Prop} {x : Addr} : HO.ext φ ≠ .own x := fun z => by cases z
theorem ext_ne_frz {φ : Heap → Prop} {o : Obj} {u : HO} : HO.ext φ ≠ .frz o u := fun z => by cases z
theorem ext_ne_tbl {φ : Heap → Prop} {ps : Array Value} : HO.ext φ ≠ .tbl ps := fun z => by cases z
theorem upd_none {H : Hp} {p b : Addr} {o u : HO} (hp : H p = some o) : upd H p u b = none ↔ H b = none := by
  by_cases e : b = p
  · subst e
    rw [upd_same, hp]
    simp
  · rw [upd_ne e]
section
variable {P : Program} {w : World} {K : PySem.W.Frag} {mg : Str → Option Value} {base : Heap} {CX : CXT} {k : Nat} {f : Addr} {fd : FuncData} {ps : List Str}
/-- an object's content is read in another way: the rest of the heap is told as before -/
theorem ObjOk.reread {H : Hp} {h : Heap} {p a : Addr} {o u v : HO} (hp : H p = some u) (n1 : ∀ x, u ≠ .own x) (n2 : ∀ xs, u ≠ .tup xs) (x : ObjOk P w H h a o) : ObjOk P w (upd H p v) h a o :=
  x.stay (fun _ _ _ z => z) (fun b hb => by rw [upd_ne (fun e => n1 _ (by rw [e, hp] at hb; exact Option.some.inj hb))]; exact hb) (fun b xs hb => by rw [upd_ne (fun e => n2 _ (by rw [e, hp] at hb; exact Option.some.inj hb))]; exact hb)
theorem Un.reread {fs : List Addr} {H : Hp} {h h' : Heap} {p : Addr} {u v v' : HO} (hp : H p = some u) (n2 : ∀ xs, u ≠ .tup xs) (n3 : ∀ o x, u ≠ .frz o x) (n4 : ∀ ps, u ≠ .tbl ps) (x : Un fs [] (upd H p v) (upd H p v') h h') : Un fs [] H H h h' where
  keep := fun b o e n => x.keep b o e ((upd_none hp).mpr n)
  slot := fun b o e n => x.slot b o e ((upd_none hp).mpr n)
  free := fun b o e n _ => n
  there := x.there
  tups := fun b xs e => e
  frzs := fun b o u e => e
  tbls := fun b ps e => ⟨#[], by rw [Array.append_empty]; exact e⟩
theorem draw_hide (F : FnOk P w K mg base CX k f fd ps spDraw1) (hCX : ∀ outer H s E e s', (∀ c d H', ¬ E c d H') → ¬ CX outer H s E e s') : FnOk P w K mg base CX k f fd ps spDraw := by
  refine ⟨fun vs H Q E h => ?_, fun A outer s H args us vs Q E hr e0 hb r h => ?_⟩
  · obtain ⟨p, many, rfl, h1, h2, ⟨q, ns, hp, hq, hl⟩, _⟩ := h
    have z : spDraw1 [.ref p, .int many] (upd (upd (fun _ => none) p (srcL 0 0 0 0 (p + 1))) (p + 1) (.lst (([] : List Int).map V.int))) (fun _ _ => True) E :=
      ⟨p, p + 1, many, 0, 0, 0, 0, [], rfl, h1, h2, by rw [upd_ne (Nat.ne_of_lt (Nat.lt_succ_self p)), upd_same], Int.le_refl _, upd_same, by simp, fun _ _ _ _ _ _ _ _ => trivial⟩
    exact F.len _ _ _ _ z
  · obtain ⟨p, many, rfl, h1, h2, ⟨q, ns, hp, hq, hl⟩, hQ⟩ := h
    obtain ⟨⟨i, x1, x2, x3, t0, t1, t2, t3, n, hi, hg⟩, -, -⟩ := (show ObjOk P w H s.heap p (SrcO p q) from e0.hok p _ hp)
    have n1 : ∀ x, SrcO p q ≠ .own x := fun x => ext_ne_own
    have n2 : ∀ xs, SrcO p q ≠ .tup xs := fun x => ext_ne_tup
    have n3 : ∀ o x, SrcO p q ≠ .frz o x := fun o x => ext_ne_frz
    have n4 : ∀ ps, SrcO p q ≠ .tbl ps := fun x => ext_ne_tbl
    have npq : q ≠ p := fun e => by
      rw [e, hp] at hq
      have z := Option.some.inj hq
      unfold SrcO at z
      cases z
    have e1 : Env0 P w K mg base A outer s (upd H p (srcL i x1 x2 x3 q)) := {
      frames := e0.frames
      mod := e0.mod
      bs := fun b o e => ⟨(e0.bs b o e).1, (upd_none hp).mpr (e0.bs b o e).2⟩
      bsz := e0.bsz
      funs := e0.funs
      frf := fun b hb => (upd_none hp).mpr (e0.frf b hb)
      hok := fun a o e => by
        by_cases ea : a = p
        · subst ea
          rw [upd_same] at e
          cases e
          exact ⟨(by show 5 ≤ sizeLine; decide), [.int i t0, .int x1 t1, .int x2 t2, .int x3 t3, .ref q], n, .cons ⟨_, rfl⟩ (.cons ⟨_, rfl⟩ (.cons ⟨_, rfl⟩ (.cons ⟨_, rfl⟩ (.cons rfl .nil)))), hg⟩
        · rw [upd_ne ea] at e
          exact (e0.hok a o e).reread hp n1 n2
      bare := e0.bare }
    refine codeAny_mono (F.run A outer s _ args us _ (fun v H' => ∃ z i' x1' x2' x3', v = .int z ∧ 0 ≤ z ∧ z < many ∧ 0 ≤ i' ∧ H' = upd H p (srcL i' x1' x2' x3' q)) (fun _ _ _ => False) hr e1 hb r
      ⟨p, q, many, i, x1, x2, x3, ns, rfl, h1, h2, upd_same, hi, by rw [upd_ne npq]; exact hq, hl, fun v i' x1' x2' x3' a b c => ⟨v, i', x1', x2', x3', rfl, a, b, c, upd_upd⟩⟩) fun r s' hq' => ?_
    cases r with
    | error e => exact absurd hq' (hCX _ _ _ _ _ _ fun _ _ _ z => z)
    | ok fl =>
      cases fl with
      | ret u =>
        obtain ⟨v, H', os2, bare2, un2, hok2, rv, z, i', x1', x2', x3', rfl, a, b, c, rfl⟩ := hq'
        refine ⟨.int z, H, os2, bare2, un2.reread hp n2 n3 n4, fun a o e => ?_, rv, hQ z a b⟩
        by_cases ea : a = p
        · subst ea
          rw [hp] at e
          cases e
          obtain ⟨_, its, n', vv, gg⟩ := (show ObjOk P w _ s'.heap a (.lst [.int i', .int x1', .int x2', .int x3', .ref q]) from hok2 a _ upd_same)
          cases vv with
          | cons r1 vv => cases vv with
            | cons r2 vv => cases vv with
              | cons r3 vv => cases vv with
                | cons r4 vv => cases vv with
                  | cons r5 vv =>
                    cases vv
                    obtain ⟨_, rfl⟩ := r1
                    obtain ⟨_, rfl⟩ := r2
                    obtain ⟨_, rfl⟩ := r3
                    obtain ⟨_, rfl⟩ := r4
                    cases r5
                    refine ⟨⟨i', x1', x2', x3', _, _, _, _, n', c, gg⟩, ⟨_, gg⟩, fun h1 h2 ⟨j, y1, y2, y3, u0, u1, u2, u3, m, hj, hm⟩ kk => ⟨j, y1, y2, y3, u0, u1, u2, u3, m, hj, kk _ hm⟩⟩
        · have e' : upd H p (srcL i' x1' x2' x3' q) a = some o := by rw [upd_ne ea]; exact e
          have x := hok2 a o e'
          have y := ObjOk.reread (H := upd H p (srcL i' x1' x2' x3' q)) (p := p) (u := srcL i' x1' x2' x3' q) (v := SrcO p q) upd_same (fun x z => by cases z) (fun x z => by cases z) x
          have e2 : upd (upd H p (srcL i' x1' x2' x3' q)) p (SrcO p q) = H := by
            rw [upd_upd]
            funext b
            by_cases hb : b = p
            · rw [hb, upd_same, hp]
            · rw [upd_ne hb]
          rw [e2] at y
          exact y
      | next => exact False.elim hq'
      | brk => exact False.elim hq'
      | cont => exact False.elim hq'
theorem src_hide (F : FnOk P w K mg base CX k f fd ps (spSrc1 K)) (hCX : ∀ outer H s E e s', (∀ c d H', ¬ E c d H') → ¬ CX outer H s E e s') : FnOk P w K mg base CX k f fd ps (spSrc K) := by
  refine ⟨fun vs H Q E h => ?_, fun A outer s H args us vs Q E hr e0 hb r h => ?_⟩
  · obtain ⟨a, ns, rfl, h1, h2, h3⟩ := h
    exact F.len [.ref a] H (fun _ _ => True) E ⟨a, ns, rfl, h1, h2, fun _ _ _ _ _ _ _ _ _ => trivial⟩
  · obtain ⟨a, ns, rfl, h1, h2, hQ⟩ := h
    refine codeAny_mono (F.run A outer s _ args us _ (fun v H' => ∃ p q, v = .ref p ∧ H p = none ∧ Same H H' ∧ p ≠ q ∧ H' p = some (srcL 0 0 0 0 q) ∧ H' q = some (.lst (ns.map V.int))) (fun _ _ _ => False) hr e0 hb r
      ⟨a, ns, rfl, h1, h2, fun p q H' a1 _ a2 a3 a4 a5 => ⟨p, q, rfl, a1, a2, a3, a4, a5⟩⟩) fun r s' hq' => ?_
    cases r with
    | error e => exact absurd hq' (hCX _ _ _ _ _ _ fun _ _ _ z => z)
    | ok fl =>
      cases fl with
      | ret u =>
        obtain ⟨v, H', os2, bare2, un2, hok2, rv, p, q, rfl, np, sm, npq, hp, hqq⟩ := hq'
        have n1 : ∀ x, srcL 0 0 0 0 q ≠ .own x := fun x z => by cases z
        have n2 : ∀ xs, srcL 0 0 0 0 q ≠ .tup xs := fun x z => by cases z
        refine ⟨.ref p, upd H' p (SrcO p q), os2, bare2, ?_, fun b o e => ?_, rv, hQ p _ np (fun b o e => ?_) ⟨q, ns, upd_same, by rw [upd_ne npq.symm]; exact hqq, h2⟩⟩
        · exact {
            keep := un2.keep
            slot := un2.slot
            free := fun b o e n nx => (upd_none hp).mpr (un2.free b o e n nx)
            there := un2.there
            tups := fun b xs e => by rw [upd_ne (ne_of_none e np)]; exact un2.tups b xs e
            frzs := fun b o u e => by rw [upd_ne (ne_of_none e np)]; exact un2.frzs b o u e
            tbls := fun b ps e => by rw [upd_ne (ne_of_none e np)]; exact un2.tbls b ps e }
        · by_cases ea : b = p
          · subst ea
            rw [upd_same] at e
            cases e
            obtain ⟨_, its, n', vv, gg⟩ := (show ObjOk P w _ s'.heap b (.lst [.int 0, .int 0, .int 0, .int 0, .ref q]) from hok2 b _ hp)
            cases vv with
            | cons r1 vv => cases vv with
              | cons r2 vv => cases vv with
                | cons r3 vv => cases vv with
                  | cons r4 vv => cases vv with
                    | cons r5 vv =>
                      cases vv
                      obtain ⟨_, rfl⟩ := r1
                      obtain ⟨_, rfl⟩ := r2
                      obtain ⟨_, rfl⟩ := r3
                      obtain ⟨_, rfl⟩ := r4
                      cases r5
                      refine ⟨⟨0, 0, 0, 0, _, _, _, _, n', Int.le_refl _, gg⟩, ⟨_, gg⟩, fun h1 h2 ⟨j, y1, y2, y3, u0, u1, u2, u3, m, hj, hm⟩ kk => ⟨j, y1, y2, y3, u0, u1, u2, u3, m, hj, kk _ hm⟩⟩
          · rw [upd_ne ea] at e
            exact (hok2 b o e).reread hp n1 n2
        · rw [upd_ne (ne_of_none e np)]
          exact sm b o e
      | next => exact False.elim hq'
      | brk => exact False.elim hq'
      | cont => exact False.elim hq'
theorem cxn_no {outer : List Env} {H : Hp} {s : Shared} {E : XK} {e : Value} {s' : Shared} (h : ∀ c d H', ¬ E c d H') : ¬ L2N.CX P w outer H s E e s' := fun ⟨_, _, _, _, _, _, _, _, _, _, _, _, z⟩ => h _ _ _ z
def noT : HO → Prop
  | .dT _ => False
  | .frz _ u => noT u
  | _ => True
theorem ObjOk.forget {H H' : Hp} {h h' : Heap} {a : Addr} {o : HO} (n : noT o) (x0 : ObjOk P w H h a o) (z : ObjOk P w H' h' a o) : ObjOk P w H h' a o := by
  induction o with
  | lst xs => exact z
  | tup xs => exact z
  | dK kvs => exact z
  | dT kvs => exact n.elim
  | set S n => exact z
  | ins C dx fs => exact ⟨x0.1, z.2⟩
  | own y => exact z
  | xd fs => exact z
  | rng lo hi => exact z
  | frz ob u ih => exact ⟨z.1, ih n x0.2 z.2⟩
  | tbl ps => exact z
  | met f y => exact z
  | ext φ => exact z
/-- what a call has tracked beside what stood before is let go, where its value needs none of it -/
theorem HOk.forget {H H' : Hp} {h h' : Heap} (nt : ∀ a o, H a = some o → noT o) (x : HOk P w H h) (y : HOk P w H' h') (sm : Same H H') : HOk P w H h' := fun a o e =>
  (x a o e).forget (nt a o e) (y a o (sm a o e))
/-- a def whose value is no object: what it makes on its way is let go -/
theorem FnOk.forget {sp : Sp} (F : FnOk P w K mg base CX k f fd ps sp) (hCX : ∀ outer H s E e s', (∀ c d H', ¬ E c d H') → ¬ CX outer H s E e s') :
    FnOk P w K mg base CX k f fd ps (fun vs H Q _ => (∀ a o, H a = some o → noT o) ∧ sp vs H (fun v H' => Same H H' ∧ Q v H) (fun _ _ _ => False)) := by
  refine ⟨fun vs H Q E h => F.len vs H _ _ h.2, fun A outer s H args us vs Q E hr e0 hb r h => ?_⟩
  refine codeAny_mono (F.run A outer s H args us vs _ _ hr e0 hb r h.2) fun r s' hq' => ?_
  cases r with
  | error e => exact absurd hq' (hCX _ _ _ _ _ _ fun _ _ _ z => z)
  | ok fl =>
    cases fl with
    | ret u =>
      obtain ⟨v, H', os2, bare2, un2, hok2, rv, sm, q⟩ := hq'
      exact ⟨v, H, os2, bare2, { keep := un2.keep, slot := un2.slot, free := fun b o e n _ => n, there := un2.there, tups := fun b xs e => e, frzs := fun b o u e => e, tbls := fun b ps e => ⟨#[], by rw [Array.append_empty]; exact e⟩ }, e0.hok.forget h.1 hok2 sm, rv, q⟩
    | next => exact False.elim hq'
    | brk => exact False.elim hq'
    | cont => exact False.elim hq'
end
end L2
namespace L2
open PySem PySem.Spec PyProof.Rows
theorem iteP {b : Bool} {A B : Prop} (h : b = true) (k : A) : if b = true then A else B := by rw [if_pos h]; exact k
theorem iteN {b : Bool} {A B : Prop} (h : b = false) (k : B) : if b = true then A else B := by rw [h, if_neg Bool.false_ne_true]; exact k
theorem upd_id {H : Hp} {p : Addr} {o : HO} (h : H p = some o) : upd H p o = H := by
  funext b
  by_cases e : b = p
  · rw [e, upd_same, h]
  · rw [upd_ne e]
end L2

/-! The rules as the steps take them: names by an explicit list, side conditions apart. -/
namespace L2
open PySem PySem.Spec PyProof.Rows
/-- the name x stands at place i, with v -/
inductive At : List Str → St → Str → Nat → V → Prop
  | here {x : Str} {N : List Str} {σ : St} {v : V} : At (x :: N) (some v :: σ) x 0 v
  | there {x n : Str} {N : List Str} {σ : St} {s : Option V} {v : V} {i : Nat} : At N σ x i v → At (n :: N) (s :: σ) x (i + 1) v
/-- the name x is stored: σ' -/
inductive SetAt : List Str → St → Str → Nat → V → St → Prop
  | here {x : Str} {N : List Str} {σ : St} {s : Option V} {v : V} : SetAt (x :: N) (s :: σ) x 0 v (some v :: σ)
  | there {x n : Str} {N : List Str} {σ σ' : St} {s : Option V} {v : V} {i : Nat} : SetAt N σ x i v σ' → SetAt (n :: N) (s :: σ) x (i + 1) v (s :: σ')
theorem At.get {N : List Str} {σ : St} {x : Str} {i : Nat} {v : V} (h : At N σ x i v) : N[i]? = some x ∧ σ[i]? = some (some v) := by
  induction h with
  | here => exact ⟨rfl, rfl⟩
  | there _ ih => exact ⟨by simpa using ih.1, by simpa using ih.2⟩
theorem SetAt.get {N : List Str} {σ σ' : St} {x : Str} {i : Nat} {v : V} (h : SetAt N σ x i v σ') : N[i]? = some x ∧ σ.set i (some v) = σ' := by
  induction h with
  | here => exact ⟨rfl, rfl⟩
  | there _ ih => exact ⟨by simpa using ih.1, by simpa using ih.2⟩
/-- the names of a def: the first M are its own -/
structure NOk (N : List Str) (M : Nat) (sc : Scope) : Prop where
  nd : N.Nodup
  ok : ∀ x ∈ N.take M, (sc.names.lookup x = some .local ∨ sc.names.lookup x = some .cell) ∧ (x == ("__debug__" : Str)) = false ∧ (x == ("__classdict__" : Str)) = false
theorem NOk.at {N : List Str} {M : Nat} {sc : Scope} (h : NOk N M sc) {i : Nat} {x : Str} (hi : i < M) (e : N[i]? = some x) : Loc sc x ∧ (x == ("__debug__" : Str)) = false ∧ (x == ("__classdict__" : Str)) = false :=
  h.ok x (by
    have : (N.take M)[i]? = some x := by rw [List.getElem?_take_of_lt hi]; exact e
    exact List.mem_of_getElem? this)
theorem Loc.vis {sc : Scope} {x : Str} (h : Loc sc x) : Vis sc x := h.elim .inl fun z => .inr (.inl z)
section
variable {X : Cx} {e a b c : Expr} {es : List Expr} {st : Stmt} {sts rest : List Stmt} {σ σ' : St} {H : Hp} {Q : VK} {nx bk ct : NX} {rt : VK} {pos p : Pos} {N : List Str} {M i : Nat} {x : Str} {v : V}
theorem s_name {sc : Scope} (S : NOk N M sc) (at_ : At N σ x i v) (hi : i < M) (hN : X.N = N ∧ X.env.scope = sc) (q : Q v H) : ZE X (.Name x pos) σ H Q :=
  ze_var i (by rw [hN.1]; exact at_.get.1) at_.get.2 q (by rw [hN.2]; exact (S.at hi at_.get.1).1.vis) (S.at hi at_.get.1).2.1 (S.at hi at_.get.1).2.2
theorem s_set {pos' : Pos} {sc : Scope} (S : NOk N M sc) (hN : X.N = N ∧ X.env.scope = sc) (hf : X.fn x = true) (h : ZE X e σ H fun v H1 => ∃ i σ', SetAt N σ x i v σ' ∧ i < M ∧ nx σ' H1) (hs : swapsWith e (some (.Name x pos')) pos.line X.env = pure false) : ZS X (.Assign [.Name x pos'] e pos) nx rt bk ct σ H := by
  refine ⟨fun pins s I => ?_⟩
  refine wpAny_Assign_Name (thn (h.run pins s I) fun u s1 ⟨v, H1, I1, r, i, σ', sa, hi, q⟩ => ?_) hs
  have g := sa.get
  refine store_ok (i := i) (v := v) I1 (by rw [hN.1]; exact S.nd) (by rw [hN.1]; exact g.1) (by rw [hN.2]; exact (S.at hi g.1).1) r (fun s2 I2 => ?_) (.inl hf)
  rw [g.2] at I2
  exact ⟨σ', H1, I2, q⟩
theorem s_setAt {R : St → Prop} (sa : SetAt N σ x i v σ') (hi : i < M) (k : R σ') : ∃ i σ', SetAt N σ x i v σ' ∧ i < M ∧ R σ' := ⟨i, σ', sa, hi, k⟩
theorem s_gname {Q : St → Hp → Prop} {sc : Scope} (S : NOk N M sc) (sa : SetAt N σ x i v σ') (hi : i < M) (hN : X.N = N ∧ X.env.scope = sc) (hf : X.fn x = true) (q : Q σ' H) : ZG X (.Name x pos) v σ H Q :=
  zg_name i (by rw [hN.1]; exact S.nd) (by rw [hN.1]; exact sa.get.1) (by rw [sa.get.2]; exact q) (by rw [hN.2]; exact (S.at hi sa.get.1).1) (.inl hf)
theorem s_expr (h : ZE X e σ H fun _ H1 => nx σ H1) (hs : swapsWith e none pos.line X.env = pure false) : ZS X (.Expr e pos) nx rt bk ct σ H := zs_expr h hs
theorem s_asg (h : ZE X e σ H fun x H1 => ZG X a x σ H1 nx) (hs : swapsWithSole [a] e pos.line X.env = pure false) (hw : swappedStores [a] e X.env = pure none)
    (h1 : (assignEach [a] X.env).map (·.2) = [assign a X.env]) : ZS X (.Assign [a] e pos) nx rt bk ct σ H := zs_asg h hs hw h1
theorem s_attrS {f : Str} {pos' : Pos} (h : ZE X e σ H fun y H1 => ZE X a σ H1 fun x H2 => ∃ p C dx fs, x = .ref p ∧ H2 p = some (.ins C dx fs) ∧ Cls X.K C ∧ NoAttr X.K C f ∧ fs.length < 1000 ∧ nx σ (upd H2 p (.ins C dx (putF f y fs))))
    (hs : swapsWith e (some (.Attribute a f pos')) pos.line X.env = pure false) : ZS X (.Assign [.Attribute a f pos'] e pos) nx rt bk ct σ H := zs_attr h hs
theorem s_glob {u : Value} (hm : X.mg x = some u) (r : RelV v u) (hg : Gl X x) (hd : (x == ("__debug__" : Str)) = false) (q : Q v H) : ZE X (.Name x pos) σ H Q := ze_glob hm r q hg hd
theorem s_gref {mg : Str → Option Value} {a : Addr} (hm : mg x = some (.ref a)) (hB : X.mg = mg) (hg : Gl X x) (hd : (x == ("__debug__" : Str)) = false) (q : Q (.ref a) H) : ZE X (.Name x pos) σ H Q := ze_glob (v := .ref a) (by rw [hB]; exact hm) rfl q hg hd
theorem s_cons {Q : List V → Hp → Prop} (h : ZE X e σ H fun x H1 => ZA X es σ H1 fun xs H2 => Q (x :: xs) H2) (hs : starEach (e :: es) X.env = (false, eval e X.env) :: starEach es X.env) : ZA X (e :: es) σ H Q := za_cons h hs
theorem s_sub (h : ZE X a σ H fun x H1 => ZE X b σ H1 fun y H2 => IxW X σ x y H2 Q) (hs : PlainIx b) : ZE X (.Subscript a b pos) σ H Q := ze_sub h hs
theorem s_attr {f : Str} (h : ZE X a σ H fun x H1 => AtW X f x H1 Q) (hb : attributeBase a f X.env (eval a X.env) = eval a X.env) : ZE X (.Attribute a f pos) σ H Q := ze_attr h hb
theorem s_val {Q : Bool → Hp → Prop} (h : ZE X e σ H fun x H1 => ∃ k, x = .bl k ∧ Q k H1) (he : ∀ whole, isTrue e X.env whole = (do let v ← whole; standAt e.pos; holding [v] (truthy v))) : ZT X e σ H Q := zt_val h he
theorem s_truth {Q : Bool → Hp → Prop} (h : ZE X e σ H fun x H1 => ∃ k, TruV X.K x H1 k ∧ Q k H1) (he : ∀ whole, isTrue e X.env whole = (do let v ← whole; standAt e.pos; holding [v] (truthy v))) : ZT X e σ H Q := zt_truth h he
theorem s_gsub {Q : St → Hp → Prop} (h : ZE X a σ H fun o H1 => ZE X b σ H1 fun i H2 => SetW X o i v H2 fun H3 => Q σ H3)
    (ha : ∀ v, assign (.Subscript a b pos) X.env v = (do
      let ov ← holding [v] (eval a X.env)
      let iv ← holding [v, ov] (eval b X.env)
      standAt pos
      holding [v, ov, iv] (setItem ov iv v)
      release [v, ov, iv] [])) : ZG X (.Subscript a b pos) v σ H Q := zg_sub h ha
/-- the names of built-in functions, and what they are -/
inductive BFn : Str → String → Prop
  | len : BFn "len" "len" | abs : BFn "abs" "abs" | isi : BFn "isinstance" "isinstance" | max : BFn "max" "max" | min : BFn "min" "min" | dm : BFn "divmod" "divmod"
inductive BTy : Str → String → Prop
  | int : BTy "int" "int" | boo : BTy "bool" "bool" | str : BTy "str" "str" | tup : BTy "tuple" "tuple" | lst : BTy "list" "list" | ve : BTy "ValueError" "ValueError"
theorem BFn.ok {x : Str} {id : String} (h : BFn x id) {mg : Str → Option Value} (B : Blt mg) : mg x = none ∧ bootBuiltins x = some (.builtin id) ∧ x ≠ "__name__" ∧ (x == ("__debug__" : Str)) = false := by
  cases h with
  | len => exact ⟨B.len, boot_len, by decide, by decide⟩
  | abs => exact ⟨B.abs, by decide +kernel, by decide, by decide⟩
  | isi => exact ⟨B.isi, by decide +kernel, by decide, by decide⟩
  | max => exact ⟨B.max, by decide +kernel, by decide, by decide⟩
  | min => exact ⟨B.min, by decide +kernel, by decide, by decide⟩
  | dm => exact ⟨B.dm, by decide +kernel, by decide, by decide⟩
theorem BTy.ok {x : Str} {id : String} (h : BTy x id) {mg : Str → Option Value} (B : Blt mg) : mg x = none ∧ bootBuiltins x = some (.type id) ∧ x ≠ "__name__" ∧ (x == ("__debug__" : Str)) = false := by
  cases h with
  | int => exact ⟨B.int, by decide +kernel, by decide, by decide⟩
  | boo => exact ⟨B.boo, by decide +kernel, by decide, by decide⟩
  | str => exact ⟨B.str, by decide +kernel, by decide, by decide⟩
  | tup => exact ⟨B.tup, by decide +kernel, by decide, by decide⟩
  | lst => exact ⟨B.lst, by decide +kernel, by decide, by decide⟩
  | ve => exact ⟨B.ve, by decide +kernel, by decide, by decide⟩
theorem s_callB {id : String} {mg : Str → Option Value} (f : BFn x id) (B : Blt mg) (hB : X.mg = mg) (h : ZA X (e :: es) σ H fun vs H1 => CallW X (.builtin id) vs H1 Q) (hg : Gl X x)
    (he : starEach (e :: es) X.env = (false, eval e X.env) :: starEach es X.env) (hpl : (backTo pos (starEach es X.env)).any (·.1) = false) : ZE X (.Call (.Name x p) (e :: es) [] pos) σ H Q := by
  subst hB; exact ze_callB (f.ok B).1 (f.ok B).2.1 h hg (f.ok B).2.2.1 (f.ok B).2.2.2 he hpl
theorem s_callT {id : String} {mg : Str → Option Value} (f : BTy x id) (B : Blt mg) (hB : X.mg = mg) (h : ZA X (e :: es) σ H fun vs H1 => CallW X (.type id) vs H1 Q) (hg : Gl X x)
    (he : starEach (e :: es) X.env = (false, eval e X.env) :: starEach es X.env) (hpl : (backTo pos (starEach es X.env)).any (·.1) = false) : ZE X (.Call (.Name x p) (e :: es) [] pos) σ H Q := by
  subst hB; exact ze_callT (f.ok B).1 (f.ok B).2.1 h hg (f.ok B).2.2.1 (f.ok B).2.2.2 he hpl
theorem s_bty {id : String} {mg : Str → Option Value} (f : BTy x id) (B : Blt mg) (hB : X.mg = mg) (hg : Gl X x) (q : Q (.ty id) H) : ZE X (.Name x pos) σ H Q := by
  subst hB; exact ze_bltn (v := .ty id) (u := .type id) (f.ok B).1 (f.ok B).2.1 rfl q hg (f.ok B).2.2.1 (f.ok B).2.2.2
/-- where a body stands -/
structure XIs (X : Cx) (P : Program) (w : World) (K : PySem.W.Frag) (mg : Str → Option Value) (base : Heap) (A : Around) : Prop where
  prog : X.prog = P
  w : X.w = w
  K : X.K = K
  mg : X.mg = mg
  base : X.base = base
  A : X.A = A
theorem s_call {P : Program} {w : World} {K : PySem.W.Frag} {mg : Str → Option Value} {base : Heap} {A : Around} {k j : Nat} {sp : Sp} (c : Cal P w K mg base k x sp) (hr : Room j A) (hk : k ≤ j) (hX : XIs X P w K mg base A) (h : ZA X (e :: es) σ H fun vs H1 => sp vs H1 Q fun cls d H' => XW X cls d σ H') (hg : Gl X x)
    (hdb : (x == ("__debug__" : Str)) = false) (he : starEach (e :: es) X.env = (false, eval e X.env) :: starEach es X.env) (hpl : (backTo pos (starEach es X.env)).any (·.1) = false) : ZE X (.Call (.Name x p) (e :: es) [] pos) σ H Q := by
  obtain ⟨rfl, rfl, rfl, rfl, rfl, rfl⟩ := hX
  exact ze_call c hr hk h hg hdb he hpl
theorem s_call0 {P : Program} {w : World} {K : PySem.W.Frag} {mg : Str → Option Value} {base : Heap} {A : Around} {k j : Nat} {sp : Sp} (c : Cal P w K mg base k x sp) (hr : Room j A) (hk : k ≤ j) (hX : XIs X P w K mg base A) (h : sp [] H Q fun cls d H' => XW X cls d σ H') (hg : Gl X x)
    (hdb : (x == ("__debug__" : Str)) = false) : ZE X (.Call (.Name x p) [] [] pos) σ H Q := by
  obtain ⟨rfl, rfl, rfl, rfl, rfl, rfl⟩ := hX
  exact ze_call0 c hr hk h hg hdb
end
end L2

/-! More rules: heaps by what they keep, texts' methods, blocks, loops, calls within an except suite. -/
namespace L2
open PySem PySem.Spec PyProof.Rows
/-! ### heaps -/
theorem Same.get {H H' : Hp} {a : Addr} {o : HO} (s : Same H H') (h : H a = some o) : H' a = some o := s a o h
theorem Same.new {H H' : Hp} {p : Addr} {o : HO} (s : Same H H') (n : H' p = none) : Same H (upd H' p o) := fun a u e => by rw [upd_ne (ne_of_none (s a u e) n)]; exact s a u e
theorem Same.put {H H' : Hp} {p : Addr} {o : HO} (s : Same H H') (n : H p = none) : Same H (upd H' p o) := fun a u e => by rw [upd_ne (ne_of_none e n)]; exact s a u e
theorem upd_no {H : Hp} {p q : Addr} {o : HO} (h : upd H p o q = none) : H q = none := by
  by_cases e : q = p
  · subst e; rw [upd_same] at h; cases h
  · rwa [upd_ne e] at h
theorem upd_no_ne {H : Hp} {p q : Addr} {o : HO} (h : upd H p o q = none) : q ≠ p := fun e => by subst e; rw [upd_same] at h; cases h
/-- p is free in H -/
structure NoA (H : Hp) (p : Addr) : Prop where
  e : H p = none
theorem intro_no {H : Hp} {R : Addr → Prop} (h : ∀ p, NoA H p → R p) : ∀ p, H p = none → R p := fun p e => h p ⟨e⟩
/-- a is tracked in H -/
def Trk (H : Hp) (a : Addr) : Prop := ∃ o, H a = some o
theorem Trk.of {H : Hp} {a : Addr} {o : HO} (h : H a = some o) : Trk H a := ⟨o, h⟩
theorem Trk.put {H : Hp} {a : Addr} {o : HO} : Trk (upd H a o) a := ⟨o, upd_same⟩
theorem Trk.up {H : Hp} {a p : Addr} {o : HO} (h : Trk H a) : Trk (upd H p o) a := by
  by_cases e : a = p
  · subst e; exact .put
  · obtain ⟨u, hu⟩ := h; exact ⟨u, by rw [upd_ne e]; exact hu⟩
theorem Trk.same {H H' : Hp} {a : Addr} (s : Same H H') (h : Trk H a) : Trk H' a := ⟨_, s _ _ h.choose_spec⟩
theorem Trk.src {H : Hp} {a : Addr} (h : Src H a) : Trk H a := by obtain ⟨q, ns, a, b, c⟩ := h; exact ⟨_, a⟩
theorem Trk.ne {H : Hp} {a b : Addr} (h : Trk H a) (n : NoA H b) : a ≠ b := ne_of_none h.choose_spec n.e
theorem NoA.ne {H : Hp} {a b : Addr} {o : HO} (h : H a = some o) (n : NoA H b) : a ≠ b := ne_of_none h n.e
theorem NoA.free {H H' : Hp} {a : Addr} (s : Same H H') (n : NoA H' a) : H a = none := Same.free s n.e
theorem Src.same {H H' : Hp} {p : Addr} (s : Same H H') (h : Src H p) : Src H' p := by
  obtain ⟨q, ns, a, b, c⟩ := h
  exact ⟨q, ns, s _ _ a, s _ _ b, c⟩
/-! ### isinstance of a built-in class -/
section
variable {X : Cx} {H : Hp} {Q : VK} {x : V}
theorem cw_isb {a b : String} {r : Bool} (hx : TyX X.K H x (.type a)) (hk : kitB a b = some r) (h : Q (.bl r) H) : CallW X (.builtin "isinstance") [x, .ty b] H Q := cw_isi (.ty b) hx (kit_ty hk) h
end
/-! ### methods of texts and lists -/
inductive BM : String → Str → String → Prop
  | startswith : BM "str" "startswith" "str.startswith" | endswith : BM "str" "endswith" "str.endswith" | upper : BM "str" "upper" "str.upper" | lower : BM "str" "lower" "str.lower"
  | strip : BM "str" "strip" "str.strip" | join : BM "str" "join" "str.join" | find : BM "str" "find" "str.find" | count : BM "str" "count" "str.count" | split : BM "str" "split" "str.split"
  | index : BM "list" "index" "list.index" | append : BM "list" "append" "list.append" | isdigit : BM "str" "isdigit" "str.isdigit" | isalpha : BM "str" "isalpha" "str.isalpha" | partition : BM "str" "partition" "str.partition"
  | rstrip : BM "str" "rstrip" "str.rstrip" | lstrip : BM "str" "lstrip" "str.lstrip" | isspace : BM "str" "isspace" "str.isspace" | isalnum : BM "str" "isalnum" "str.isalnum"
theorem BM.ok {T id : String} {m : Str} (h : BM T m id) : PlainAttrs T ∧ Slot T m id ∧ typeOf (.builtin id) = pure (.type "method_descriptor") := by
  cases h with
  | startswith => exact ⟨F.plainAttrs_str, F.slot_str_startswith, F.type_str_startswith⟩
  | endswith => exact ⟨F.plainAttrs_str, F.slot_str_endswith, F.type_str_endswith⟩
  | upper => exact ⟨F.plainAttrs_str, F.slot_str_upper, F.type_str_upper⟩
  | lower => exact ⟨F.plainAttrs_str, F.slot_str_lower, F.type_str_lower⟩
  | strip => exact ⟨F.plainAttrs_str, F.slot_str_strip, F.type_str_strip⟩
  | join => exact ⟨F.plainAttrs_str, F.slot_str_join, F.type_str_join⟩
  | find => exact ⟨F.plainAttrs_str, F.slot_str_find, F.type_str_find⟩
  | count => exact ⟨F.plainAttrs_str, F.slot_str_count, F.type_str_count⟩
  | split => exact ⟨F.plainAttrs_str, F.slot_str_split, F.type_str_split⟩
  | index => exact ⟨F.plainAttrs_list, F.slot_list_index, F.type_list_index⟩
  | append => exact ⟨F.plainAttrs_list, F.slot_list_append, F.type_list_append⟩
  | isdigit => exact ⟨F.plainAttrs_str, F.slot_str_isdigit, F.type_str_isdigit⟩
  | isalpha => exact ⟨F.plainAttrs_str, F.slot_str_isalpha, F.type_str_isalpha⟩
  | partition => exact ⟨F.plainAttrs_str, F.slot_str_partition, F.type_str_partition⟩
  | rstrip => exact ⟨F.plainAttrs_str, F.slot_str_rstrip, F.type_str_rstrip⟩
  | lstrip => exact ⟨F.plainAttrs_str, F.slot_str_lstrip, F.type_str_lstrip⟩
  | isspace => exact ⟨F.plainAttrs_str, F.slot_str_isspace, F.type_str_isspace⟩
  | isalnum => exact ⟨F.plainAttrs_str, F.slot_str_isalnum, F.type_str_isalnum⟩
section
variable {X : Cx} {e a b c : Expr} {es : List Expr} {σ : St} {H : Hp} {Q : VK} {pos apos : Pos} {z z2 : Str} {p : Addr} {xs : List V} {y : V}
theorem s_bm0 {T id : String} {m : Str} (f : BM T m id) (h : ZE X a σ H fun x H1 => tyV X.K T x H1 ∧ MtW X id x [] H1 Q) (hbase : attributeBase a m X.env (eval a X.env) = eval a X.env) (hline : (apos.endLine == pos.line) = true) :
    ZE X (.Call (.Attribute a m apos) [] [] pos) σ H Q := ze_bm0 f.ok.1 f.ok.2.1 f.ok.2.2 h hbase hline
theorem s_bm {T id : String} {m : Str} (f : BM T m id) (h : ZE X a σ H fun x H1 => tyV X.K T x H1 ∧ ZA X (e :: es) σ H1 fun xs H2 => MtW X id x xs H2 Q) (hbase : attributeBase a m X.env (eval a X.env) = eval a X.env) (hline : (apos.endLine == pos.line) = true)
    (hfew : ((backTo pos (starEach (e :: es) X.env)).all (fun x => !x.1) && (backToKw pos (keywordEach [] X.env)).all (fun x => x.1.isSome)
      && decide ((e :: es).length + ([] : List Keyword).length + (if ([] : List Keyword).isEmpty then 0 else 1) < 30)) = true)
    (hs : starEach (e :: es) X.env = (false, eval e X.env) :: starEach es X.env) (hplain : (backTo pos (starEach es X.env)).any (·.1) = false) :
    ZE X (.Call (.Attribute a m apos) (e :: es) [] pos) σ H Q := ze_bm f.ok.1 f.ok.2.1 f.ok.2.2 h hbase hfew hline hs hplain
theorem mw_startswith (h : Q (.bl (Txt.startswith z z2)) H) : MtW X "str.startswith" (.str z) [.str z2] H Q := MtR.w mt_startswith ⟨z, z2, rfl, rfl, h⟩
theorem mw_endswith (h : Q (.bl (Txt.endswith z z2)) H) : MtW X "str.endswith" (.str z) [.str z2] H Q := MtR.w mt_endswith ⟨z, z2, rfl, rfl, h⟩
theorem mw_find (h : Q (.int (Txt.find z z2)) H) : MtW X "str.find" (.str z) [.str z2] H Q := MtR.w mt_find ⟨z, z2, rfl, rfl, h⟩
theorem mw_count (h : Q (.int (Txt.count z z2)) H) : MtW X "str.count" (.str z) [.str z2] H Q := MtR.w mt_count ⟨z, z2, rfl, rfl, h⟩
theorem mw_upper (hz : z.length ≤ 5592405) (h : Q (.str (Txt.upper z)) H) : MtW X "str.upper" (.str z) [] H Q := MtR.w mt_upper ⟨z, rfl, rfl, hz, h⟩
theorem mw_lower (hz : z.length ≤ 5592405) (h : Q (.str (Txt.lower z)) H) : MtW X "str.lower" (.str z) [] H Q := MtR.w mt_lower ⟨z, rfl, rfl, hz, h⟩
theorem mw_strip (hz : z.length ≤ sizeLine) (h : Q (.str (Txt.strip z)) H) : MtW X "str.strip" (.str z) [] H Q := MtR.w mt_strip ⟨z, rfl, rfl, hz, h⟩
theorem mw_isdigit (h : Q (.bl (Txt.isdigit z)) H) : MtW X "str.isdigit" (.str z) [] H Q := MtR.w mt_isdigit ⟨z, rfl, rfl, trivial, h⟩
theorem mw_join {ys : List Str} (hp : SqL X.K H p (ys.map V.str) ∨ SqT X.K H p (ys.map V.str)) (hz : (ys.map (·.length)).sum + ys.length * z.length ≤ 16777216) (h : Q (.str (Txt.join z ys)) H) : MtW X "str.join" (.str z) [.ref p] H Q := MtR.w mt_join ⟨z, p, ys, rfl, rfl, hp, hz, h⟩
theorem mw_index {j : Nat} {v : V} (hs : SqL X.K H p xs) (hy : flatV y = true) (hx : xs.all flatV = true) (hj : xs[j]? = some v) (hv : eqV v y = true) (hno : ∀ (m : Nat) (z' : V), m < j → xs[m]? = some z' → eqV z' y = false) (h : Q (.int (j : Nat)) H) :
    MtW X "list.index" (.ref p) [y] H Q := MtR.w mt_index ⟨p, xs, y, j, v, rfl, rfl, hs, hy, hx, hj, hv, hno, h⟩
/-- x.upper().replace(y, z) -/
theorem ze_upRep {y z : Str} {j k : Nat} {c0 c1 upos upos' : Pos} (h : ZE X a σ H fun v H1 => ∃ x, v = .str x ∧ x.length ≤ 5592405 ∧ (Txt.upper x).length + ((Txt.upper x).length + 1) * z.length ≤ 16777216 ∧ Q (.str (Txt.replace (Txt.upper x) y z)) H1) (hyz : (y == z) = false := by decide)
    (hst : starEach [.Constant (.str y) j c0, .Constant (.str z) k c1] X.env = [(false, eval (.Constant (.str y) j c0) X.env), (false, eval (.Constant (.str z) k c1) X.env)] := by rfl)
    (hb1 : attributeBase a "upper" X.env (eval a X.env) = eval a X.env := by rfl) (hl1 : (upos.endLine == upos'.line) = true := by rfl)
    (hbase : attributeBase (.Call (.Attribute a "upper" upos) [] [] upos') "replace" X.env (eval (.Call (.Attribute a "upper" upos) [] [] upos') X.env) = eval (.Call (.Attribute a "upper" upos) [] [] upos') X.env := by rfl) (hline : (apos.endLine == pos.line) = true := by rfl) :
    ZE X (.Call (.Attribute (.Call (.Attribute a "upper" upos) [] [] upos') "replace" apos) [.Constant (.str y) j c0, .Constant (.str z) k c1] [] pos) σ H Q := by
  refine ⟨fun pins s I => ?_⟩
  refine PySem.Call_method2 hbase hst hline (PySem.Call_method0 hb1 hl1 (thn (h.run pins s I) fun v s1 hh => ?_))
  obtain ⟨v', H1, I1, r1, x, e1, hx, hb, q⟩ := hh
  subst e1
  obtain ⟨tx, e2⟩ := r1
  subst e2
  refine PySem.SB.upper (PyProof.Rows.short24 (by have := PyProof.Rows.len_upper x; omega)) ?_
  refine ⟨"str", _, PySem.F.plainAttrs_str, PySem.F.slot_str_replace, PySem.F.type_str_replace, typeIs_str _ _ _, (fun _ e => nomatch e), Calls.callWith_builtin rfl (Calls.evalArgs_plain (Calls.spliced_cons ?_))⟩
  refine Calls.Constant_str (Calls.spliced_cons (Calls.Constant_str (Calls.spliced_nil ?_)))
  exact PySem.SC.replace (by show s1.toks + 1 ≠ 0; omega) (by show s1.toks + 1 + 1 ≠ 0; omega) (by show s1.toks + 1 ≠ s1.toks + 1 + 1; omega) hyz hb fun t' k => ⟨.str (Txt.replace (Txt.upper x) y z), H1, (I1.tok (s1.toks + 1)).tok k, ⟨t', rfl⟩, q⟩
/-- what a written dict has at a text -/
def WGet (K : PySem.W.Frag) (w : World) (p : Addr) (z : Str) (r : Option V) : Prop := ∃ es n u, K.lookup p = some ⟨.type "dict", none, .dict es n, #[]⟩ ∧ PySem.W.KeysLit w.params es.toList ∧ (p == sysModules) = false ∧ PySem.W.nsIn K p z = some u ∧ RelO r u
/-- d.get(k, x) of a written dict -/
theorem ze_getW (h : ZE X a σ H fun x H1 => ∃ p : Addr, x = .ref p ∧ (∃ es n, X.K.lookup p = some ⟨.type "dict", none, .dict es n, #[]⟩) ∧ ZE X b σ H1 fun y H2 => ZE X c σ H2 fun d H3 => ∃ (z : Str) (r : Option V), y = .str z ∧ WGet X.K X.w p z r ∧ Q (r.getD d) H3)
    (hst : starEach [b, c] X.env = [(false, eval b X.env), (false, eval c X.env)] := by rfl) (hbase : attributeBase a "get" X.env (eval a X.env) = eval a X.env := by rfl) (hline : (apos.endLine == pos.line) = true := by rfl) :
    ZE X (.Call (.Attribute a "get" apos) [b, c] [] pos) σ H Q := by
  refine ⟨fun pins s I => ?_⟩
  refine PySem.Call_method2 hbase hst hline (thn (h.run pins s I) fun v s1 hh => ?_)
  obtain ⟨x, H1, I1, r1, p, ex, ⟨es0, n0, hl0⟩, q1⟩ := hh
  subst ex
  obtain rfl : v = Value.ref p := r1
  refine ⟨"dict", _, PySem.F.plainAttrs_dict, PySem.F.slot_dict_get, PySem.F.type_dict_get, ⟨_, I1.kIn _ _ hl0, rfl⟩, (fun b' e => ?_), Calls.callWith_builtin rfl (Calls.evalArgs_plain (Calls.spliced_cons (thn (q1.run pins s1 I1) fun iv s2 hy => ?_)))⟩
  · cases e
    exact ⟨_, I1.kIn _ _ hl0, rfl⟩
  · obtain ⟨y, H2, I2, ry, q2⟩ := hy
    refine Calls.spliced_cons (thn (q2.run pins s2 I2) fun fv s3 hz => Calls.spliced_nil ?_)
    obtain ⟨d, H3, I3, rd, z, r, ey, ⟨es, n, u, hl, hk, low, hf, ro⟩, q⟩ := hz
    subst ey
    obtain ⟨t, rfl⟩ := ry
    have hm := PySem.W.mapOf_K (prog := X.prog) (w := X.w) I3.kIn hl hk
    refine call_meetsIn PySem.F.slot_dict_get hm.typeIs PySem.F.entry_dict_get (PySem.F.args_dict_get_3 _ _ _) (meets_dict_get_default (strKind X.prog X.w) p (strKind_is X.prog X.w z t) low fv) ⟨_, hm, r.getD d, H3, I3.tok _, ?_, q⟩
    rw [PySem.W.find_K hl hf]
    exact ro.getD rd
end
/-! ### comprehensions -/
section
variable {X : Cx} {elt tg iter : Expr} {scope : Scope} {own : List (Str × Nat)} {pos : Pos} {σ : St} {H : Hp} {Q : VK}
/-- within a block of X, whichever its state -/
def Blk (X : Cx) (scope : Scope) (φ : Cx → Prop) : Prop := ∀ (s : Shared) (H : Hp) (C : Addr) (cl : List (Str × Addr)) (fp : List Addr), φ (X.blk s H scope (compEnvC scope cl C X.env) fp)
def gBlk (X : Cx) (scope : Scope) (tg : Expr) : TG := fun v σ H Q => Blk X scope fun Y => ZG Y tg v σ H Q
def eBlk (X : Cx) (scope : Scope) (e : Expr) : TE := fun σ H Q => Blk X scope fun Y => ZE Y e σ H Q
def tBlk (X : Cx) (scope : Scope) (e : Expr) : TT := fun σ H Q => Blk X scope fun Y => ZT Y e σ H Q
theorem pg_blk (s : Shared) (H : Hp) (C : Addr) (cl : List (Str × Addr)) (fp : List Addr) : PG (X.blk s H scope (compEnvC scope cl C X.env) fp) tg (gBlk X scope tg) := ⟨fun pins s' σ H' v u Q I r h => (h s H C cl fp).run pins s' u I r⟩
theorem pe_blk (s : Shared) (H : Hp) (C : Addr) (cl : List (Str × Addr)) (fp : List Addr) : PE (X.blk s H scope (compEnvC scope cl C X.env) fp) elt (eBlk X scope elt) := ⟨fun pins s' σ H' Q I h => (h s H C cl fp).run pins s' I⟩
theorem pt_blk (s : Shared) (H : Hp) (C : Addr) (cl : List (Str × Addr)) (fp : List Addr) : PT (X.blk s H scope (compEnvC scope cl C X.env) fp) elt (tBlk X scope elt) := ⟨fun pins s' σ H' Q I h => (h s H C cl fp).run pins s' I⟩
/-- [elt for tg in iter], iter a list that the block leaves as it is: Pv by the turn -/
theorem ze_lcL (hc : X.calm = true) (hN : X.N.Nodup) (ok : BlkOk X.N X.env.scope scope own)
    (h : ZE X iter σ H fun x H1 => ∃ a xs, x = .ref a ∧ SqL X.K H1 a xs ∧ ∀ D, H1 D = none → ∃ Pv : Nat → Hp → Prop, Pv 0 (upd H1 D (.lst [])) ∧ (∀ i H, i ≤ xs.length → Pv i H → SqL X.K H a xs) ∧
      (∀ i x H, xs[i]? = some x → Pv i H → gBlk X scope tg x (wipe σ (own.map (·.2))) H fun σ2 H2 => wipe σ2 (own.map (·.2)) = wipe σ (own.map (·.2)) ∧ eBlk X scope elt σ2 H2 fun y H4 => ∃ acc, H4 D = some (.lst acc) ∧ acc.length < sizeLine ∧ Pv (i + 1) (upd H4 D (.lst (acc ++ [y])))) ∧
      ∀ H, Pv xs.length H → Q (.ref D) H)
    (hs : ∀ x, foldedSetIterable iter X.env x = pure x := by intro _; rfl) : ZE X (.ListComp elt [⟨tg, iter, [], 0⟩] scope pos) σ H Q := by
  refine (pe_lc (tt := tYes) hc hN (pi_list (tg := tg) pe_we) ok pg_blk (fun _ _ _ _ _ => pts_nil) pe_blk hs).w ?_
  refine ⟨fun pins s I => thn (h.run pins s I) fun u s1 hh => ?_⟩
  obtain ⟨x, H1, I1, r1, a, xs, ex, hl, k⟩ := hh
  refine ⟨x, H1, I1, r1, a, ex, ⟨xs, hl⟩, fun D hD => ?_⟩
  obtain ⟨Pv, h0, hk, hs', hd⟩ := k D hD
  refine lc_list (g := gBlk X scope tg) (te := eBlk X scope elt) (tt := tYes) Pv h0 hk (fun i x H hx hp => ?_) hd
  exact hs' i x _ hx hp
/-- [elt for tg in iter if c] -/
theorem ze_lcLi {c : Expr} (hc : X.calm = true) (hN : X.N.Nodup) (ok : BlkOk X.N X.env.scope scope own)
    (h : ZE X iter σ H fun x H1 => ∃ a xs, x = .ref a ∧ SqL X.K H1 a xs ∧ ∀ D, H1 D = none → ∃ Pv : Nat → Hp → Prop, Pv 0 (upd H1 D (.lst [])) ∧ (∀ i H, i ≤ xs.length → Pv i H → SqL X.K H a xs) ∧
      (∀ i x H, xs[i]? = some x → Pv i H → gBlk X scope tg x (wipe σ (own.map (·.2))) H fun σ2 H2 => wipe σ2 (own.map (·.2)) = wipe σ (own.map (·.2)) ∧ tBlk X scope c σ2 H2 fun b H3 => if b = true then eBlk X scope elt σ2 H3 fun y H4 => ∃ acc, H4 D = some (.lst acc) ∧ acc.length < sizeLine ∧ Pv (i + 1) (upd H4 D (.lst (acc ++ [y]))) else Pv (i + 1) H3) ∧
      ∀ H, Pv xs.length H → Q (.ref D) H)
    (hs : ∀ x, foldedSetIterable iter X.env x = pure x := by intro _; rfl) : ZE X (.ListComp elt [⟨tg, iter, [c], 0⟩] scope pos) σ H Q := by
  refine (pe_lc (tt := tBlk X scope c) hc hN (pi_list (tg := tg) pe_we) ok pg_blk (fun s H C cl fp => pts_one (pt_blk s H C cl fp)) pe_blk hs).w ?_
  refine ⟨fun pins s I => thn (h.run pins s I) fun u s1 hh => ?_⟩
  obtain ⟨x, H1, I1, r1, a, xs, ex, hl, k⟩ := hh
  refine ⟨x, H1, I1, r1, a, ex, ⟨xs, hl⟩, fun D hD => ?_⟩
  obtain ⟨Pv, h0, hk, hs', hd⟩ := k D hD
  exact lc_list (g := gBlk X scope tg) (te := eBlk X scope elt) (tt := tBlk X scope c) Pv h0 hk (fun i x H hx hp => hs' i x _ hx hp) hd
/-- [elt for tg in range(n)] -/
theorem ze_lcR {e : Expr} {p : Pos} {rpos : Pos} (hc : X.calm = true) (hN : X.N.Nodup) (ok : BlkOk X.N X.env.scope scope own) (hm : X.mg "range" = none)
    (h : ZA X [e] σ H fun vs H1 => ∃ j : Int, vs = [.int j] ∧ -(2 ^ 62) ≤ j ∧ j < 2 ^ 62 ∧ ∀ D, H1 D = none → ∃ Pv : Nat → Hp → Prop, Pv 0 (upd H1 D (.lst [])) ∧
      (∀ (i : Nat) H, i < j.toNat → Pv i H → gBlk X scope tg (.int i) (wipe σ (own.map (·.2))) H fun σ2 H2 => wipe σ2 (own.map (·.2)) = wipe σ (own.map (·.2)) ∧ eBlk X scope elt σ2 H2 fun y H4 => ∃ acc, H4 D = some (.lst acc) ∧ acc.length < sizeLine ∧ Pv (i + 1) (upd H4 D (.lst (acc ++ [y])))) ∧
      ∀ H, Pv j.toNat H → Q (.ref D) H)
    (hg : Gl X "range" := by rfl) (hst : starEach [e] X.env = [(false, eval e X.env)] := by rfl) (hs : ∀ x, foldedSetIterable (.Call (.Name "range" p) [e] [] rpos) X.env x = pure x := by intro _; rfl) : ZE X (.ListComp elt [⟨tg, .Call (.Name "range" p) [e] [] rpos, [], 0⟩] scope pos) σ H Q := by
  refine (pe_lc (tt := tYes) hc hN (pi_range1 (tg := tg) hg hm pa_wa hst) ok pg_blk (fun _ _ _ _ _ => pts_nil) pe_blk hs).w ?_
  refine ⟨fun ps pins s I => thn (h.run ps pins s I) fun u s1 hh => ?_⟩
  obtain ⟨vs, H1, I1, r1, j, ex, l1, l2, k⟩ := hh
  refine ⟨vs, H1, I1, r1, j, ex, l1, l2, fun D hD => ?_⟩
  obtain ⟨Pv, h0, hs', hd⟩ := k D hD
  exact lc_range (lo := 0) (g := gBlk X scope tg) (te := eBlk X scope elt) (tt := tYes) Pv h0 (fun i H hx hp => by
    have := hs' i _ hx hp
    rw [Int.zero_add]
    exact this) hd
end
/-! ### loops -/
section
variable {X : Cx} {tg a e b : Expr} {body : List Stmt} {σ : St} {H : Hp} {nx bk ct : NX} {rt : VK} {pos p rpos : Pos}
/-- for tg in range(n): Iv by the turn; `break` goes to nx -/
theorem zs_forR (hp : PassesOwn (model X.prog X.w) X.A X.env X.xe) (hc : X.calm = true) (hm : X.mg "range" = none)
    (h : ZA X [e] σ H fun vs H1 => ∃ j : Int, vs = [.int j] ∧ -(2 ^ 62) ≤ j ∧ j < 2 ^ 62 ∧ ∃ Iv : Nat → St → Hp → Prop, Iv 0 σ H1 ∧
      (∀ (i : Nat) σ1 H2, (i : Int) < j → Iv i σ1 H2 → ZG X tg (.int i) σ1 H2 fun σ2 H3 => ZSs X body (Iv (i + 1)) rt nx (Iv (i + 1)) σ2 H3) ∧ ∀ σ1 H2, Iv j.toNat σ1 H2 → nx σ1 H2)
    (hg : Gl X "range" := by rfl) (hst : starEach [e] X.env = [(false, eval e X.env)] := by rfl) (hs : ∀ x, foldedSetIterable (.Call (.Name "range" p) [e] [] rpos) X.env x = pure x := by intro _; rfl) :
    ZS X (.For tg (.Call (.Name "range" p) [e] [] rpos) body [] pos) nx rt bk ct σ H := by
  refine zs_for hp hc (zi_range1 hm ?_ hg hst) hs
  refine ⟨fun ps pins s I => thn (h.run ps pins s I) fun u s1 hh => ?_⟩
  obtain ⟨vs, H1, I1, r1, j, ex, l1, l2, Iv, i0, st, fi⟩ := hh
  refine ⟨vs, H1, I1, r1, j, ex, l1, l2, fun i m σ' H' => m = j.toNat - i ∧ i ≤ j.toNat ∧ Iv i σ' H', ⟨_, rfl, Nat.zero_le _, i0⟩, ?_⟩
  rintro i m σ' H' ⟨rfl, hi, iv⟩
  by_cases hlt : i < j.toNat
  · refine .inr ⟨hlt, Iv (i + 1), fun σ2 H2 q => ⟨_, by omega, rfl, hlt, q⟩, fun x H2 y => ?_⟩
    obtain ⟨rfl, rfl⟩ := y
    have := st i σ' _ (by omega) iv
    simpa using this
  · have e : i = j.toNat := by omega
    subst e
    exact .inl ⟨Nat.le_refl _, fi _ _ iv⟩
/-- for tg in range(lo, hi) -/
theorem zs_forR2 (hp : PassesOwn (model X.prog X.w) X.A X.env X.xe) (hc : X.calm = true) (hm : X.mg "range" = none)
    (h : ZA X [e, b] σ H fun vs H1 => ∃ lo j : Int, vs = [.int lo, .int j] ∧ (-(2 ^ 62) ≤ lo ∧ lo < 2 ^ 62 ∧ -(2 ^ 62) ≤ j ∧ j < 2 ^ 62) ∧ ∃ Iv : Nat → St → Hp → Prop, Iv 0 σ H1 ∧
      (∀ (i : Nat) σ1 H2, lo + (i : Int) < j → Iv i σ1 H2 → ZG X tg (.int (lo + i)) σ1 H2 fun σ2 H3 => ZSs X body (Iv (i + 1)) rt nx (Iv (i + 1)) σ2 H3) ∧ ∀ σ1 H2, Iv (j - lo).toNat σ1 H2 → nx σ1 H2)
    (hg : Gl X "range" := by rfl) (hst : starEach [e, b] X.env = [(false, eval e X.env), (false, eval b X.env)] := by rfl) (hst2 : starEach [b] X.env = [(false, eval b X.env)] := by rfl) (hs : ∀ x, foldedSetIterable (.Call (.Name "range" p) [e, b] [] rpos) X.env x = pure x := by intro _; rfl) :
    ZS X (.For tg (.Call (.Name "range" p) [e, b] [] rpos) body [] pos) nx rt bk ct σ H := by
  refine zs_for hp hc (zi_range2 hm ?_ hg hst hst2) hs
  refine ⟨fun ps pins s I => thn (h.run ps pins s I) fun u s1 hh => ?_⟩
  obtain ⟨vs, H1, I1, r1, lo, j, ex, l1, Iv, i0, st, fi⟩ := hh
  refine ⟨vs, H1, I1, r1, lo, j, ex, l1, fun i m σ' H' => m = (j - lo).toNat - i ∧ i ≤ (j - lo).toNat ∧ Iv i σ' H', ⟨_, rfl, Nat.zero_le _, i0⟩, ?_⟩
  rintro i m σ' H' ⟨rfl, hi, iv⟩
  by_cases hlt : i < (j - lo).toNat
  · refine .inr ⟨hlt, Iv (i + 1), fun σ2 H2 q => ⟨_, by omega, rfl, hlt, q⟩, fun x H2 y => ?_⟩
    obtain ⟨rfl, rfl⟩ := y
    exact st i σ' _ (by omega) iv
  · have e : i = (j - lo).toNat := by omega
    subst e
    exact .inl ⟨Nat.le_refl _, fi _ _ iv⟩
/-- for tg in a list that the turns leave as it is -/
theorem zs_forL (hp : PassesOwn (model X.prog X.w) X.A X.env X.xe) (hc : X.calm = true)
    (h : ZE X a σ H fun x H1 => ∃ p xs, x = .ref p ∧ SqL X.K H1 p xs ∧ ∃ Iv : Nat → St → Hp → Prop, Iv 0 σ H1 ∧ (∀ i σ1 H2, i ≤ xs.length → Iv i σ1 H2 → SqL X.K H2 p xs) ∧
      (∀ i y σ1 H2, xs[i]? = some y → Iv i σ1 H2 → ZG X tg y σ1 H2 fun σ2 H3 => ZSs X body (Iv (i + 1)) rt nx (Iv (i + 1)) σ2 H3) ∧ ∀ σ1 H2, Iv xs.length σ1 H2 → nx σ1 H2)
    (hs : ∀ x, foldedSetIterable a X.env x = pure x := by intro _; rfl) : ZS X (.For tg a body [] pos) nx rt bk ct σ H := by
  refine zs_for hp hc (zi_list ?_) hs
  refine ⟨fun pins s I => thn (h.run pins s I) fun u s1 hh => ?_⟩
  obtain ⟨x, H1, I1, r1, q, xs, ex, hl, Iv, i0, kp, st, fi⟩ := hh
  refine ⟨x, H1, I1, r1, q, ex, ⟨xs, hl⟩, fun i m σ' H' => m = xs.length - i ∧ i ≤ xs.length ∧ Iv i σ' H', ⟨_, rfl, Nat.zero_le _, i0⟩, ?_⟩
  rintro i m σ' H' ⟨rfl, hi, iv⟩
  have hl' := kp i σ' H' hi iv
  by_cases hlt : i < xs.length
  · refine .inr ⟨⟨xs, xs[i], hl', by simp [hlt]⟩, Iv (i + 1), fun σ2 H2 q => ⟨_, by omega, rfl, hlt, q⟩, fun y H2 yy => ?_⟩
    obtain ⟨e, yy⟩ := yy
    subst e
    exact st i y σ' _ (yy xs hl') iv
  · have e : i = xs.length := by omega
    subst e
    exact .inl ⟨⟨xs, hl', Nat.le_refl _⟩, fi _ _ iv⟩
/-- for tg in a tuple -/
theorem zs_forT (hp : PassesOwn (model X.prog X.w) X.A X.env X.xe) (hc : X.calm = true)
    (h : ZE X a σ H fun x H1 => ∃ p xs, x = .ref p ∧ SqT X.K H1 p xs ∧ ∃ Iv : Nat → St → Hp → Prop, Iv 0 σ H1 ∧ (∀ i σ1 H2, i ≤ xs.length → Iv i σ1 H2 → SqT X.K H2 p xs) ∧
      (∀ i y σ1 H2, xs[i]? = some y → Iv i σ1 H2 → ZG X tg y σ1 H2 fun σ2 H3 => ZSs X body (Iv (i + 1)) rt nx (Iv (i + 1)) σ2 H3) ∧ ∀ σ1 H2, Iv xs.length σ1 H2 → nx σ1 H2)
    (hs : ∀ x, foldedSetIterable a X.env x = pure x := by intro _; rfl) : ZS X (.For tg a body [] pos) nx rt bk ct σ H := by
  refine zs_for hp hc (zi_tup ?_) hs
  refine ⟨fun pins s I => thn (h.run pins s I) fun u s1 hh => ?_⟩
  obtain ⟨x, H1, I1, r1, q, xs, ex, hl, Iv, i0, kp, st, fi⟩ := hh
  refine ⟨x, H1, I1, r1, q, ex, ⟨xs, hl⟩, fun i m σ' H' => m = xs.length - i ∧ i ≤ xs.length ∧ Iv i σ' H', ⟨_, rfl, Nat.zero_le _, i0⟩, ?_⟩
  rintro i m σ' H' ⟨rfl, hi, iv⟩
  have hl' := kp i σ' H' hi iv
  by_cases hlt : i < xs.length
  · refine .inr ⟨⟨xs, xs[i], hl', by simp [hlt]⟩, Iv (i + 1), fun σ2 H2 q => ⟨_, by omega, rfl, hlt, q⟩, fun y H2 yy => ?_⟩
    obtain ⟨e, yy⟩ := yy
    subst e
    exact st i y σ' _ (yy xs hl') iv
  · have e : i = xs.length := by omega
    subst e
    exact .inl ⟨⟨xs, hl', Nat.le_refl _⟩, fi _ _ iv⟩
/-- while c: Iv with a measure -/
theorem zs_whl {c : Expr} (hp : PassesOwn (model X.prog X.w) X.A X.env X.xe) (Iv : Nat → St → Hp → Prop) (m0 : Nat) (h0 : Iv m0 σ H)
    (st : ∀ m σ1 H1, Iv m σ1 H1 → ZT X c σ1 H1 fun k H2 => if k = true then ZSs X body (fun σ2 H3 => ∃ m', m' < m ∧ Iv m' σ2 H3) rt nx (fun σ2 H3 => ∃ m', m' < m ∧ Iv m' σ2 H3) σ1 H2 else nx σ1 H2) : ZS X (.While c body [] pos) nx rt bk ct σ H :=
  zs_while hp ⟨Iv, ⟨m0, h0⟩, fun m σ1 H1 iv => ⟨fun pins s I => wpAny_mono ((st m σ1 H1 iv).run pins s I) (fun k s1 hh => by
    obtain ⟨H2, I2, q⟩ := hh
    refine ⟨H2, I2, ?_⟩
    cases k
    · exact q
    · exact ⟨_, fun _ _ z => z, q⟩) fun _ _ z => z⟩⟩
end
/-! ### calls within an except suite -/
structure CalH (P : Program) (w : World) (K : PySem.W.Frag) (mg : Str → Option Value) (base : Heap) (k : Nat) (x : Str) (sp : Sp) : Prop where
  ex : ∃ (f : Addr) (fd : FuncData) (ps : List Str), L2H.FnH P w K mg base (L2N.CX P w) k f fd ps sp ∧ mg x = some (.ref f) ∧ PySem.W.keepIn K (.ref f) = true ∧ Binds K fd ps []
section
variable {X : Cx} {e a : Expr} {es : List Expr} {σ : St} {H : Hp} {Q : VK} {p pos apos : Pos}
theorem ze_callH {x : Str} {k j : Nat} {sp : Sp} (c : CalH X.prog X.w X.K X.mg X.base k x sp) (hr : L2H.RoomH j X.A) (hc : L2H.HotC X) (hk : k ≤ j) (h : ZA X (e :: es) σ H fun vs H1 => sp vs H1 Q fun cls d H' => XW X cls d σ H') (hg : Gl X x)
    (hdb : (x == ("__debug__" : Str)) = false) (he : starEach (e :: es) X.env = (false, eval e X.env) :: starEach es X.env) (hpl : (backTo pos (starEach es X.env)).any (·.1) = false) : ZE X (.Call (.Name x p) (e :: es) [] pos) σ H Q := by
  obtain ⟨f, fd, ps, F, gm, kp, hb⟩ := c.ex
  refine (L2H.pe_callH (E := fun σ cls d H' => XW X cls d σ H') F (hr.mono hk) hc hg gm kp hb (fun σ pins H s e' s' I hq => takes_xw e' s' (L2N.XE.of_call I (fun cls d H' w => w) hq)) pa_wa hdb he hpl).w h
end
theorem FunH.ok {P : Program} {w : World} {K : PySem.W.Frag} {mg : Str → Option Value} {base : Heap} {x qual : Str} {st : Stmt} {f : Addr} {fd : FuncData} {N ps : List Str} {k : Nat} {sp : Sp} (F : Fun K x qual st f fd) (S : FnScope N ps (defScope st)) (len : ∀ vs H Q E, sp vs H Q E → vs.length = ps.length)
    (hbody : ∀ (cdv : Value) (A : Around) (outer : List Env) (s : Shared) (H : Hp) (vs : List V) (Q : VK) (E : XK) (p : Addr × Obj), L2H.Hot1 A p → L2H.RoomH k (A.deeper (envOfC qual (defScope st) s.heap.objs.size f cdv)) → sp vs H Q E →
      ZSs (L2H.cxH (L2N.CX P w) P w K mg base N qual (defScope st) f cdv A outer s H E p) (defBody st) (fun _ H' => Q .non H') Q (fun _ _ => False) (fun _ _ => False) (start N vs) H) : L2H.FnH P w K mg base (L2N.CX P w) (k + 1) f fd ps sp := by
  obtain ⟨oc, od, kV, doc, pm, an, cdv, ct, osl, rfl, lk, hcd⟩ := F.ex
  exact L2H.fn_ofH lk hcd S len fun A outer s H vs Q E p hot hr hsp => ⟨_, pss_wss, hbody cdv A outer s H vs Q E p hot hr hsp⟩
/-! ### raise, in a step -/
structure XCls (P : Program) (K : PySem.W.Frag) (mg : Str → Option Value) (x : Str) (C : Addr) (nms : List Str) : Prop where
  T : PySem.LX.ExcT K C
  gC : mg x = some (.ref C)
  ini : ∃ fI, PySem.W.findIn K (.ref C) "__init__" = some (some (.ref fI)) ∧ PySem.W.typeIn K (.ref fI) = some (.type "function") ∧ PySem.LX.InitRuns P K mg C fI nms
theorem s_raise {X : Cx} {e : Expr} {es : List Expr} {σ : St} {H : Hp} {nx bk ct : NX} {rt : VK} {p pos pos2 : Pos} {P : Program} {w : World} {K : PySem.W.Frag} {mg : Str → Option Value} {base : Heap} {A : Around} {x : Str} {C : Addr} {nms : List Str} {j : Nat} (c : XCls P K mg x C nms) (hr : Room j A) (hX : XIs X P w K mg base A) (hc : X.calm = true)
    (h : ZA X (e :: es) σ H fun vs H1 => vs.length = nms.length ∧ nms.length ≤ 10 ∧ ∀ d, H1 d = none → XW X (.ref C) (some d) σ (upd H1 d (.xd (nms.zip vs).reverse))) (hg : Gl X x)
    (hdb : (x == ("__debug__" : Str)) = false) (he : starEach (e :: es) X.env = (false, eval e X.env) :: starEach es X.env) (hpl : (backTo pos (starEach es X.env)).any (·.1) = false) : ZS X (.Raise (some (.Call (.Name x p) (e :: es) [] pos)) none pos2) nx rt bk ct σ H := by
  obtain ⟨rfl, rfl, rfl, rfl, rfl, rfl⟩ := hX
  obtain ⟨fI, a, b, ir⟩ := c.ini
  exact zs_raise (c := e) hc c.T a b ir c.gC hr h hg hdb he hpl
end L2
namespace L2
open PySem PySem.Spec PyProof.Rows
/-! ### equal data, by depth -/
inductive DEq (K : PySem.W.Frag) (H : Hp) : Nat → V → V → Prop
  | non {n : Nat} : DEq K H n .non .non
  | bl {n : Nat} (b : Bool) : DEq K H n (.bl b) (.bl b)
  | int {n : Nat} (i : Int) : DEq K H n (.int i) (.int i)
  | str {n : Nat} (z : Str) : DEq K H n (.str z) (.str z)
  | lst {n : Nat} {p q : Addr} {xs ys : List V} (hx : SqL K H p xs) (hy : SqL K H q ys) (hz : xs.length ≤ sizeLine) (hl : xs.length = ys.length) (h : ∀ (i : Nat) (x y : V), xs[i]? = some x → ys[i]? = some y → DEq K H n x y) : DEq K H (n + 1) (.ref p) (.ref q)
  | tup {n : Nat} {p q : Addr} {xs ys : List V} (hx : SqT K H p xs) (hy : SqT K H q ys) (hz : xs.length ≤ sizeLine) (hl : xs.length = ys.length) (h : ∀ (i : Nat) (x y : V), xs[i]? = some x → ys[i]? = some y → DEq K H n x y) : DEq K H (n + 1) (.ref p) (.ref q)
theorem DEq.self {K : PySem.W.Frag} {H : Hp} {n : Nat} {x : V} (h : flatV x = true) (h2 : ∀ b, x ≠ .byt b) (h3 : ∀ b, x ≠ .flt b) (h4 : ∀ a, x ≠ .ref a) : DEq K H n x x := by
  cases x with
  | non => exact .non
  | bl b => exact .bl b
  | int i => exact .int i
  | str z => exact .str z
  | byt b => exact absurd rfl (h2 b)
  | flt b => exact absurd rfl (h3 b)
  | ref a => exact absurd rfl (h4 a)
  | ty t => exact absurd h (by simp [flatV])
/-- the plain data: no object -/
inductive Sc : V → Prop
  | non : Sc .non | bl (b : Bool) : Sc (.bl b) | int (i : Int) : Sc (.int i) | str (z : Str) : Sc (.str z)
theorem Sc.eq {K : PySem.W.Frag} {H : Hp} {n : Nat} {x : V} (h : Sc x) : DEq K H n x x := by
  cases h with
  | non => exact .non
  | bl b => exact .bl b
  | int i => exact .int i
  | str z => exact .str z
theorem DEq.lstS {K : PySem.W.Frag} {H : Hp} {n : Nat} {p q : Addr} {xs : List V} (hx : SqL K H p xs) (hy : SqL K H q xs) (hz : xs.length ≤ sizeLine) (h : ∀ x ∈ xs, Sc x) : DEq K H (n + 1) (.ref p) (.ref q) :=
  .lst hx hy hz rfl fun i x y a b => by rw [a] at b; cases b; exact (h x (List.mem_of_getElem? a)).eq
theorem DEq.tupS {K : PySem.W.Frag} {H : Hp} {n : Nat} {p q : Addr} {xs : List V} (hx : SqT K H p xs) (hy : SqT K H q xs) (hz : xs.length ≤ sizeLine) (h : ∀ x ∈ xs, Sc x) : DEq K H (n + 1) (.ref p) (.ref q) :=
  .tup hx hy hz rfl fun i x y a b => by rw [a] at b; cases b; exact (h x (List.mem_of_getElem? a)).eq
def spDq (K : PySem.W.Frag) (n : Nat) : Sp := fun vs H Q _ => ∃ x y, vs = [x, y] ∧ DEq K H n x y ∧ Q (.bl true) H
def spEqS : Sp := fun vs H Q _ => ∃ x, vs = [x, x] ∧ Sc x ∧ Q (.bl true) H
theorem equal_do {K : PySem.W.Frag} {n : Nat} {x y : V} {H : Hp} {Q : VK} {E : XK} (h : DEq K H n x y) (q : Q (.bl true) H) : spDq K n [x, y] H Q E := ⟨x, y, rfl, h, q⟩
theorem equalS_do {x : V} {H : Hp} {Q : VK} {E : XK} (h : Sc x) (q : Q (.bl true) H) : spEqS [x, x] H Q E := ⟨x, rfl, h, q⟩
theorem TyX.ofL {K : PySem.W.Frag} {H : Hp} {p : Addr} {xs : List V} (h : SqL K H p xs) : TyX K H (.ref p) (.type "list") := by
  rcases h with (h | ⟨o, h⟩) | ⟨o, _, _, h, c, _⟩
  · exact .base (.lst h)
  · exact .base (.frz h)
  · exact .kList h c
theorem TyX.ofT {K : PySem.W.Frag} {H : Hp} {p : Addr} {xs : List V} (h : SqT K H p xs) : TyX K H (.ref p) (.type "tuple") := by
  rcases h with (h | ⟨o, h⟩) | ⟨o, _, _, h, c, _⟩
  · exact .base (.tup h)
  · exact .fTuple h
  · exact .kTuple h c
theorem inV_str {z : Str} : ∀ {l : List Str}, inV (.str z) (l.map V.str) = decide (z ∈ l)
  | [] => rfl
  | a :: l => by
    have ih := inV_str (z := z) (l := l)
    unfold inV at ih ⊢
    rw [List.map_cons, List.any_cons, ih]
    by_cases e : a = z
    · subst e; simp [eqV]
    · have e2 : ¬ z = a := fun x => e x.symm
      simp [eqV, e, e2]
end L2
namespace L2
open PySem PySem.Spec PyProof.Rows
theorem idxOf_before {l : List Str} {z : Str} : ∀ {m : Nat} {y : Str}, m < l.idxOf z → l[m]? = some y → y ≠ z := by
  induction l with
  | nil => intro m y h h2; simp at h2
  | cons a l ih =>
    intro m y h h2
    rw [List.idxOf_cons] at h
    by_cases e : a = z
    · subst e; simp at h
    · have e2 : (a == z) = false := by simpa using e
      rw [e2] at h
      cases m with
      | zero => simp at h2; subst h2; exact e
      | succ m =>
        simp at h2
        exact ih (by simp at h; omega) h2
theorem mw_indexS {X : Cx} {H : Hp} {Q : VK} {p : Addr} {l : List Str} {z : Str} (hs : SqL X.K H p (l.map V.str)) (hz : z ∈ l) (h : Q (.int (l.idxOf z : Nat)) H) : MtW X "list.index" (.ref p) [.str z] H Q := by
  have hlt : l.idxOf z < l.length := List.idxOf_lt_length_of_mem hz
  have e : l[l.idxOf z]? = some z := by rw [List.getElem?_eq_getElem hlt, List.getElem_idxOf]
  refine mw_index (j := l.idxOf z) (v := .str z) hs rfl (by simp [List.all_map, flatV]) (by rw [List.getElem?_map, e]; rfl) (by simp [eqV]) (fun m z' hm hz' => ?_) h
  obtain ⟨y, hy, rfl⟩ := map_get hz'
  have := idxOf_before hm hy
  simp [eqV, this]
end L2
namespace L2
open PySem PySem.Spec PyProof.Rows
theorem draw_do {p : Addr} {many : Int} {H : Hp} {Q : VK} {E : XK} (h1 : 0 < many) (h2 : many < 1073741824) (h3 : Src H p) (h : ∀ v, 0 ≤ v → v < many → Q (.int v) H) : spDraw [.ref p, .int many] H Q E := ⟨p, many, rfl, h1, h2, h3, h⟩
theorem cutS_len (z : Str) (lo hi : Option Int) : (cutS z lo hi).length ≤ z.length := by
  have e : z.length = z.cps.toList.length := rfl
  rw [e]
  show (List.toArray _).size ≤ _
  rw [List.size_toArray, List.length_take, List.length_drop]
  omega
theorem str_app_len (a b : Str) : (a ++ b).length = a.length + b.length := by
  show (a.cps ++ b.cps).size = _
  rw [Array.size_append]; rfl
end L2
namespace L2
open PySem PySem.Spec PyProof.Rows
/-! ### within an except suite -/
section
variable {X : Cx} {a : Addr} {oe : Obj} {cls : Value} {d : Option Addr} {pn : List (Addr × Obj)} {H : Hp} {Q : VK} {σ : St}
theorem hot_suite (hz : L2N.Zn cls d oe) (hf : ∃ vs, oe.data = .fields vs) : L2H.HotC (X.suite a ((a, oe) :: pn)) := by
  obtain ⟨vs, e⟩ := hf
  exact ⟨(a, oe), ⟨rfl, vs, e, hz.2.2 vs e⟩, List.mem_cons_self⟩
theorem cw_isx {D : Addr} {c : V} {cv : Value} {b : Bool} (hz : L2N.Zn cls d oe) (hf : ∃ vs, oe.data = .fields vs) (hc : cls = .ref D) (T : PySem.LX.ExcT X.K D) (hd : DOk H d) (hv : ClsV c cv) (hk : PySem.W.kitOne X.K (.ref D) cv = some b) (q : Q (.bl b) H) :
    CallW (X.suite a ((a, oe) :: pn)) (.builtin "isinstance") [.ref a, c] H Q := (call_isX hz.zc hf).w ⟨D, c, cv, b, hc, T, hd, rfl, fun _ r => hv.eq r, hk, q⟩
theorem aw_xd {C dd : Addr} {fs : List (Str × V)} {v : V} {n : Str} (hz : L2N.Zn cls d oe) (hf : ∃ vs, oe.data = .fields vs) (hc : cls = .ref C) (hd : d = some dd) (T : PySem.LX.ExcT X.K C) (hno : PySem.W.findIn X.K (.ref C) n = some none) (ea : H dd = some (.xd fs)) (l : fs.lookup n = some v) (q : Q v H) :
    AtW (X.suite a ((a, oe) :: pn)) n (.ref a) H Q := by
  refine ⟨fun pins s1 σ u I1 rx => ?_⟩
  obtain rfl : u = Value.ref a := rx
  subst hc
  subst hd
  obtain ⟨ha, _⟩ := I1.pin (a, oe) (List.mem_append_left _ List.mem_cons_self)
  obtain ⟨vs, hdt⟩ := hf
  have hx : ObjOk X.prog X.w H s1.heap dd (.xd fs) := I1.hok dd _ ea
  obtain ⟨mA, hns, hr⟩ := hx
  obtain ⟨od, ho, hl⟩ := lookIn_ns hns
  obtain ⟨u, hu, ru⟩ := RelO.some_of (v := v) (o := mA n) (by rw [← l]; exact hr n)
  have J : PySem.W.InstAt s1.heap a oe C (some od) := ⟨ha, hz.1, by unfold PySem.W.notCls; rw [hdt] <;> rfl, by rw [hz.2.1]; exact ho⟩
  exact HandSPX.exc_get I1.kIn J T.ga T.gg T.ox.exC (PySem.W.findObj_own T.hd hno rfl (by rw [hl, hu])) (handed_of ru) ⟨v, H, I1.tok _, ru, q⟩
theorem s_callH {P : Program} {w : World} {K : PySem.W.Frag} {mg : Str → Option Value} {base : Heap} {A : Around} {x : Str} {k j : Nat} {sp : Sp} {e : Expr} {es : List Expr} {p pos : Pos} (c : CalH P w K mg base k x sp) (hz : L2N.Zn cls d oe) (hf : ∃ vs, oe.data = .fields vs) (hr : Room j A) (hk : k ≤ j) (hX : XIs X P w K mg base A)
    (h : ZA (X.suite a ((a, oe) :: pn)) (e :: es) σ H fun vs H1 => sp vs H1 Q fun cls d H' => XW (X.suite a ((a, oe) :: pn)) cls d σ H') (hg : Gl X x)
    (hdb : (x == ("__debug__" : Str)) = false) (he : starEach (e :: es) X.env = (false, eval e X.env) :: starEach es X.env) (hpl : (backTo pos (starEach es X.env)).any (·.1) = false) : ZE (X.suite a ((a, oe) :: pn)) (.Call (.Name x p) (e :: es) [] pos) σ H Q := by
  obtain ⟨rfl, rfl, rfl, rfl, rfl, rfl⟩ := hX
  exact ze_callH (X := X.suite a ((a, oe) :: pn)) c (j := j) (show L2H.RoomH j (X.A.mark (some (.ref a))) from ⟨hr.dp, hr.un⟩) (hot_suite hz hf) hk h hg hdb he hpl
theorem s_try {P : Program} {w : World} {K : PySem.W.Frag} {mg : Str → Option Value} {base : Heap} {A : Around} {x n : Str} {CL : Addr} {i : Nat} {body suite : List Stmt} {b₀ : Stmt} {np pos pos' : Pos} {N : List Str} {M : Nat} {sc : Scope} {nx bk ct : NX} {rt : VK} (gC : mg x = some (.ref CL)) (S : NOk N M sc) (hX : XIs X P w K mg base A) (hN : X.N = N ∧ X.env.scope = sc) (hi : N[i]? = some n)
    (hs : X.stack = X.env :: X.outer) (hf : X.env.frame = some X.env.locals) (hln : X.env.kindOf n = some .local) (hg : Gl X x) (hdb : (x == ("__debug__" : Str)) = false)
    (h : ∀ (pn : List (Addr × Obj)) (xe : Value → Shared → Prop), (∀ cls d σ H, (∃ b, PySem.W.exmOne K cls (.ref CL) = some b ∧ (b = true → ∀ a, H a = none → ∀ (oe : Obj) (pn : List (Addr × Obj)), L2N.Zn cls d oe → (∃ vs, oe.data = .fields vs) → ZSs (X.suite a ((a, oe) :: pn)) (b₀ :: suite) (fun σ' H' => nx (σ'.set i none) H') rt (fun σ' H' => bk (σ'.set i none) H') (fun σ' H' => ct (σ'.set i none) H') (σ.set i (some (.ref a))) H) ∧ (b = false → XW X cls d σ H)) → XW (X.tr pn xe) cls d σ H) →
      PassesOwn (model X.prog X.w) X.A X.env xe → ZSs (X.tr pn xe) body nx rt bk ct σ H) :
    ZS X (.Try body [.ExceptHandler (some (.Name x np)) (some n) (b₀ :: suite) pos'] [] [] pos) nx rt bk ct σ H := by
  obtain ⟨rfl, rfl, rfl, rfl, rfl, rfl⟩ := hX
  obtain ⟨rfl, rfl⟩ := hN
  refine zs_try_as hs hf S.nd hi hln ⟨hg, hdb, .inl gC⟩ fun pn xe tk hp => h pn xe (fun cls d σ H hh => xw_of tk ?_) hp
  obtain ⟨b, h1, h2, h3⟩ := hh
  exact ⟨b, h1, fun hb a na oe pn hz hf => h2 hb a na oe pn hz hf, h3⟩
end
end L2
namespace L2
open PySem PySem.Spec PyProof.Rows
theorem src_do {K : PySem.W.Frag} {a : Addr} {ns : List Int} {H : Hp} {Q : VK} {E : XK} (h1 : SqL K H a (ns.map V.int)) (h2 : ns.length ≤ 1000) (h : ∀ p H', NoA H p → Same H H' → Src H' p → Q (.ref p) H') : spSrc K [.ref a] H Q E := ⟨a, ns, rfl, h1, h2, fun p H' n => h p H' ⟨n⟩⟩
theorem mem_cutV {xs : List V} {lo hi : Option Int} {y : V} (h : y ∈ cutV xs lo hi) : y ∈ xs := by
  unfold cutV at h
  exact List.mem_of_mem_drop (List.mem_of_mem_take h)
/-- the law's promise -/
def spLaw (K : PySem.W.Frag) : Sp := fun vs H Q _ => ∃ (a : Addr) (ns : List Int), vs = [.ref a] ∧ SqL K H a (ns.map V.int) ∧ ns.length ≤ 63 ∧ ∀ H', Q (.bl true) H'
end L2
namespace L2
open PySem PySem.Spec PyProof.Rows
theorem Sc.nil : ∀ x ∈ ([] : List V), Sc x := fun x h => by cases h
theorem Sc.cons {a : V} {l : List V} (h : Sc a) (t : ∀ x ∈ l, Sc x) : ∀ x ∈ a :: l, Sc x := fun x hx => by
  rcases List.mem_cons.mp hx with rfl | hx
  · exact h
  · exact t x hx
theorem Sc.app {a l : List V} (h : ∀ x ∈ a, Sc x) (t : ∀ x ∈ l, Sc x) : ∀ x ∈ a ++ l, Sc x := fun x hx => (List.mem_append.mp hx).elim (h x) (t x)
theorem Sc.mapS {l : List Str} : ∀ x ∈ l.map V.str, Sc x := fun x hx => by
  obtain ⟨m, _, rfl⟩ := List.mem_map.mp hx
  exact .str m
theorem Sc.mapI {l : List Int} : ∀ x ∈ l.map V.int, Sc x := fun x hx => by
  obtain ⟨m, _, rfl⟩ := List.mem_map.mp hx
  exact .int m
end L2
namespace L2
open PySem PySem.Spec PyProof.Rows
theorem Cal.of {P : Program} {w : World} {K : PySem.W.Frag} {mg : Str → Option Value} {base : Heap} {k : Nat} {x : Str} {f : Addr} {fd : FuncData} {ps : List Str} {sp : Sp} (F : FnOk P w K mg base (L2N.CX P w) k f fd ps sp) (g : mg x = some (.ref f)) (kp : PySem.W.keepIn K (.ref f) = true) (b : Binds K fd ps []) : Cal P w K mg base k x sp :=
  ⟨f, fd, ps, [], [], sp, F, g, kp, b, .nil, fun vs H Q E h => by rw [List.append_nil]; exact h⟩
theorem CalH.of {P : Program} {w : World} {K : PySem.W.Frag} {mg : Str → Option Value} {base : Heap} {k : Nat} {x : Str} {f : Addr} {fd : FuncData} {ps : List Str} {sp : Sp} (F : L2H.FnH P w K mg base (L2N.CX P w) k f fd ps sp) (g : mg x = some (.ref f)) (kp : PySem.W.keepIn K (.ref f) = true) (b : Binds K fd ps []) : CalH P w K mg base k x sp :=
  ⟨f, fd, ps, F, g, kp, b⟩
end L2

/-! Still more rules: where a token is given out, blocks, ranges. -/
namespace L2
open PySem PySem.Spec PyProof.Rows
section
variable {X : Cx} {e a b c : Expr} {es : List Expr} {σ σ' : St} {H : Hp} {Q : VK} {pos apos p : Pos}
/-! ### one token is given out -/
structure ZE1 (X : Cx) (e : Expr) (σ : St) (H : Hp) (Q : VK) : Prop where
  run : ∀ pins s, 1 ≤ s.toks → Inv X pins σ H s → wpAny (model X.prog X.w) X.A (eval e X.env) (EP X pins σ Q) X.xe s
structure ZEs (X : Cx) (e : Expr) (σ : St) (H : Hp) (Q : VK) : Prop where
  run : ∀ pins s, Inv X pins σ H s → wpAny (model X.prog X.w) X.A (eval e X.env) (fun v s' => 1 ≤ s'.toks ∧ EP X pins σ Q v s') X.xe s
structure ZA1 (X : Cx) (es : List Expr) (σ : St) (H : Hp) (Q : List V → Hp → Prop) : Prop where
  run : ∀ pos pins s, 1 ≤ s.toks → Inv X pins σ H s → wpAny (model X.prog X.w) X.A (spliced (backTo pos (starEach es X.env))) (AP X pins σ Q) X.xe s
theorem ze1_of (h : ZE X e σ H Q) : ZE1 X e σ H Q := ⟨fun pins s _ I => h.run pins s I⟩
theorem za1_nil {Q : List V → Hp → Prop} (q : Q [] H) : ZA1 X [] σ H Q := ⟨fun pos pins s _ I => (za_nil q).run pos pins s I⟩
theorem za1_cons {Q : List V → Hp → Prop} (h : ZE1 X e σ H fun x H1 => ZA1 X es σ H1 fun xs H2 => Q (x :: xs) H2) (hs : starEach (e :: es) X.env = (false, eval e X.env) :: starEach es X.env) : ZA1 X (e :: es) σ H Q := by
  refine ⟨fun pos pins s h0 I => ?_⟩
  rw [hs]
  show wpAny _ _ (spliced ((false, eval e X.env) :: backTo pos (starEach es X.env))) _ _ s
  refine Calls.spliced_cons (wpAny_mono (PySem.wpAny_toks (h.run pins s h0 I)) (fun v s1 q => ?_) fun _ _ z => z.2)
  obtain ⟨hk, x, H1, I1, r1, q1⟩ := q
  exact thn (q1.run pos pins s1 (Nat.le_trans h0 hk) I1) fun us s2 ⟨xs, H2, I2, r2, q2⟩ => ⟨x :: xs, H2, I2, .cons r1 r2, q2⟩
theorem za_conss {Q : List V → Hp → Prop} (h : ZEs X e σ H fun x H1 => ZA1 X es σ H1 fun xs H2 => Q (x :: xs) H2) (hs : starEach (e :: es) X.env = (false, eval e X.env) :: starEach es X.env) : ZA X (e :: es) σ H Q := by
  refine ⟨fun pos pins s I => ?_⟩
  rw [hs]
  show wpAny _ _ (spliced ((false, eval e X.env) :: backTo pos (starEach es X.env))) _ _ s
  refine Calls.spliced_cons (wpAny_mono (h.run pins s I) (fun v s1 q => ?_) fun _ _ z => z)
  obtain ⟨hk, x, H1, I1, r1, q1⟩ := q
  exact thn (q1.run pos pins s1 hk I1) fun us s2 ⟨xs, H2, I2, r2, q2⟩ => ⟨x :: xs, H2, I2, .cons r1 r2, q2⟩
/-- e + 'text' -/
theorem zes_addlit {z : Str} {j : Nat} {c0 : Pos} (h : ZE X a σ H fun x H1 => OpW X σ (binaryOp .Add) x (.str z) H1 Q) : ZEs X (.BinOp a .Add (.Constant (.str z) j c0) pos) σ H Q := by
  refine ⟨fun pins s I => ?_⟩
  refine wpAny_BinOp (thn (h.run pins s I) fun v s1 ⟨x, H1, I1, r1, q1⟩ => Calls.Constant_str ?_)
  refine wpAny_mono (PySem.wpAny_toks (q1.run pins { s1 with toks := s1.toks + 1 } v (.str z s1.toks) (I1.tok (s1.toks + 1)) r1 ⟨_, rfl⟩)) (fun u s2 q => ⟨?_, q.2⟩) fun _ _ z => z.2
  have : s1.toks + 1 ≤ s2.toks := q.1
  omega
theorem ze1_repl {y z : Str} {j k : Nat} {c0 c1 : Pos} (h : ZE X a σ H fun v H1 => ∃ x, v = .str x ∧ x.length + (x.length + 1) * z.length ≤ 16777216 ∧ Q (.str (Txt.replace x y z)) H1) (hyz : (y == z) = false := by decide)
    (hst : starEach [.Constant (.str y) j c0, .Constant (.str z) k c1] X.env = [(false, eval (.Constant (.str y) j c0) X.env), (false, eval (.Constant (.str z) k c1) X.env)] := by rfl)
    (hbase : attributeBase a "replace" X.env (eval a X.env) = eval a X.env := by rfl) (hline : (apos.endLine == pos.line) = true := by rfl) :
    ZE1 X (.Call (.Attribute a "replace" apos) [.Constant (.str y) j c0, .Constant (.str z) k c1] [] pos) σ H Q :=
  ⟨fun pins s h0 I => CwR.pet_replC (to := fun σ H Q => ZE X a σ H Q) pe_we hyz hst hbase hline pins s σ H Q h0 I h⟩
/-! ### names within a block -/
theorem b_name {N : List Str} {M : Nat} {sc : Scope} {x : Str} {i : Nat} {v : V} (S : NOk N M sc) (hN : X.N = N) (at_ : At N σ x i v) (hv : Vis X.env.scope x) (hd : (x == ("__debug__" : Str)) = false) (hcd : (x == ("__classdict__" : Str)) = false) (q : Q v H) : ZE X (.Name x pos) σ H Q :=
  ze_var i (by rw [hN]; exact at_.get.1) at_.get.2 q hv hd hcd
theorem b_gname {Q : St → Hp → Prop} {N : List Str} {M : Nat} {sc : Scope} {x : Str} {i : Nat} {v : V} (S : NOk N M sc) (hN : X.N = N) (sa : SetAt N σ x i v σ') (hx : Loc X.env.scope x) (hf : X.fn x = true ∨ X.env.scope.names.lookup x = some .local) (q : Q σ' H) : ZG X (.Name x pos) v σ H Q :=
  zg_name i (by rw [hN]; exact S.nd) (by rw [hN]; exact sa.get.1) (by rw [sa.get.2]; exact q) hx hf
end
section
variable {X : Cx} {elt tg iter c : Expr} {scope : Scope} {own : List (Str × Nat)} {pos : Pos} {σ : St} {H : Hp} {Q : VK}
/-- [elt for tg in range(lo, hi) if c] -/
theorem ze_lcR2i {e b : Expr} {p : Pos} {rpos : Pos} (hc : X.calm = true) (hN : X.N.Nodup) (ok : BlkOk X.N X.env.scope scope own) (hm : X.mg "range" = none)
    (h : ZA X [e, b] σ H fun vs H1 => ∃ lo j : Int, vs = [.int lo, .int j] ∧ (-(2 ^ 62) ≤ lo ∧ lo < 2 ^ 62 ∧ -(2 ^ 62) ≤ j ∧ j < 2 ^ 62) ∧ ∀ D, NoA H1 D → ∃ Pv : Nat → Hp → Prop, Pv 0 (upd H1 D (.lst [])) ∧
      (∀ (i : Nat) H, i < (j - lo).toNat → Pv i H → gBlk X scope tg (.int (lo + i)) (wipe σ (own.map (·.2))) H fun σ2 H2 => wipe σ2 (own.map (·.2)) = wipe σ (own.map (·.2)) ∧ tBlk X scope c σ2 H2 fun k H3 => if k = true then eBlk X scope elt σ2 H3 fun y H4 => ∃ acc, H4 D = some (.lst acc) ∧ acc.length < sizeLine ∧ Pv (i + 1) (upd H4 D (.lst (acc ++ [y]))) else Pv (i + 1) H3) ∧
      ∀ H, Pv (j - lo).toNat H → Q (.ref D) H)
    (hg : Gl X "range" := by rfl) (hst : starEach [e, b] X.env = [(false, eval e X.env), (false, eval b X.env)] := by rfl) (hst2 : starEach [b] X.env = [(false, eval b X.env)] := by rfl) (hs : ∀ x, foldedSetIterable (.Call (.Name "range" p) [e, b] [] rpos) X.env x = pure x := by intro _; rfl) :
    ZE X (.ListComp elt [⟨tg, .Call (.Name "range" p) [e, b] [] rpos, [c], 0⟩] scope pos) σ H Q := by
  refine (pe_lc (tt := tBlk X scope c) hc hN (pi_range2 (tg := tg) hg hm pa_wa hst hst2) ok pg_blk (fun s H C cl fp => pts_one (pt_blk s H C cl fp)) pe_blk hs).w ?_
  refine ⟨fun ps pins s I => thn (h.run ps pins s I) fun u s1 hh => ?_⟩
  obtain ⟨vs, H1, I1, r1, lo, j, ex, l1, k⟩ := hh
  refine ⟨vs, H1, I1, r1, lo, j, ex, l1, fun D hD => ?_⟩
  obtain ⟨Pv, h0, hs', hd⟩ := k D ⟨hD⟩
  exact lc_range (lo := lo) (g := gBlk X scope tg) (te := eBlk X scope elt) (tt := tBlk X scope c) Pv h0 (fun i H hx hp => hs' i _ hx hp) hd
end
section
variable {X : Cx} {H : Hp} {Q : VK} {z z2 : Str} {p : Addr} {xs : List V}
theorem mw_split (hz2 : (z2.length == 0) = false) (hz : z.length + 2 ≤ sizeLine) (h : ∀ p, NoA H p → Q (.ref p) (upd H p (.lst ((Txt.split z z2).map V.str)))) : MtW X "str.split" (.str z) [.str z2] H Q := MtR.w mt_split ⟨z, z2, rfl, rfl, hz2, hz, fun p n => h p ⟨n⟩⟩
theorem ow_inS {l : List Str} (hs : SqL X.K H p (l.map V.str) ∨ SqT X.K H p (l.map V.str)) (h : Q (.bl (decide (z ∈ l))) H) : OpW X σ (compareOp .In) (.str z) (.ref p) H Q := ow_in hs rfl (by simp [List.all_map, flatV]) (by rw [inV_str]; exact h)
theorem ow_notinS {l : List Str} (hs : SqL X.K H p (l.map V.str) ∨ SqT X.K H p (l.map V.str)) (h : Q (.bl (!decide (z ∈ l))) H) : OpW X σ (compareOp .NotIn) (.str z) (.ref p) H Q := ow_notin hs rfl (by simp [List.all_map, flatV]) (by rw [inV_str]; exact h)
end
end L2
namespace L2
open PySem PySem.Spec PyProof.Rows
theorem xw_lstP {X : Cx} {H : Hp} {Q : VK} {p : Addr} {xs : List V} {i : Int} {P : V → Prop} (hs : SqL X.K H p xs) (h0 : 0 ≤ i) (h1 : i < xs.length) (hp : ∀ v ∈ xs, P v) (h : ∀ v, P v → Q v H) : IxW X σ (.ref p) (.int i) H Q := by
  obtain ⟨x, hx, hx2⟩ := atI_lt h0 h1
  exact xw_lst hs hx2 (h x (hp x (List.mem_of_getElem? hx)))
theorem All.nil {P : V → Prop} : ∀ v ∈ ([] : List V), P v := fun v h => by cases h
theorem All.cons {P : V → Prop} {a : V} {l : List V} (h : P a) (t : ∀ v ∈ l, P v) : ∀ v ∈ a :: l, P v := fun v hv => by
  rcases List.mem_cons.mp hv with rfl | hv
  · exact h
  · exact t v hv
theorem All.app {P : V → Prop} {a l : List V} (h : ∀ v ∈ a, P v) (t : ∀ v ∈ l, P v) : ∀ v ∈ a ++ l, P v := fun v hv => (List.mem_append.mp hv).elim (h v) (t v)
end L2
namespace L2
open PySem PySem.Spec PyProof.Rows
theorem ow_eqD {X : Cx} {H : Hp} {Q : VK} {x y : V} {d e : PyData} {r : Bool} (hu : X.A.units + 64 < cLine) (hx : Dp X.K H x d) (hy : Dp X.K H y e) (h1 : SeqAt.shaped d = true) (h2 : SeqAt.shaped e = true) (hr : PyData.eqv d e = r) (h : Q (.bl r) H) : OpW X σ (compareOp .Eq) x y H Q :=
  (op_eqD hu).w ⟨d, e, hx, hy, h1, h2, by rw [hr]; exact h⟩
theorem Room.u64 {k : Nat} {A : Around} (h : Room k A) : A.units + 64 < cLine := by have := h.un; omega
theorem zss_cut {X : Cx} {st : Stmt} {rest : List Stmt} {nx bk ct : NX} {rt : VK} {σ : St} {H : Hp} (Mid : NX) (h1 : ZS X st Mid rt bk ct σ H) (h2 : ∀ σ' H', Mid σ' H' → ZSs X rest nx rt bk ct σ' H') : ZSs X (st :: rest) nx rt bk ct σ H := by
  refine zss_cons ⟨fun pins s I => wpAny_mono (h1.run pins s I) (fun fl s' hs => ?_) fun _ _ z => z⟩
  cases fl with
  | next =>
    obtain ⟨σ', H', J, q⟩ := hs
    exact ⟨σ', H', J, h2 σ' H' q⟩
  | ret u => exact hs
  | brk => exact hs
  | cont => exact hs
end L2

/-! Objects of own classes: made, their fields, isinstance. -/
namespace L2
open PySem PySem.Spec PyProof.Rows
/-- a class as a name of the module, with what its __init__ promises (arguments behind the given ones by their defaults) -/
structure CalC (P : Program) (w : World) (K : PySem.W.Frag) (mg : Str → Option Value) (base : Heap) (k : Nat) (x : Str) (C : Addr) (sp : Sp) : Prop where
  ex : ∃ (f : Addr) (fd : FuncData) (ps : List Str) (sp0 : Sp), L2.Mk K C f ∧ FnOk P w K mg base (L2N.CX P w) k f fd ps sp0 ∧ mg x = some (.ref C) ∧ ∀ vs H Q E, sp vs H Q E → ∃ (dvs : List V) (ds : List Value), Binds K fd ps ds ∧ Vals dvs ds ∧ sp0 (vs ++ dvs) H Q E
section
variable {X : Cx} {e : Expr} {es : List Expr} {σ : St} {H : Hp} {Q : VK} {p pos : Pos}
theorem mrun {k : Nat} {C f : Addr} {fd : FuncData} {ps : List Str} {sp : Sp} {pins : List (Addr × Obj)} {s : Shared} {us : List Value} {vs : List V} (M : L2.Mk X.K C f) (F : FnOk X.prog X.w X.K X.mg X.base (L2N.CX X.prog X.w) k f fd ps sp) (hr : Room (k + 1) X.A)
    (I : Inv X pins σ H s) (r : Vals vs us) (h : ∀ a dx, NoA H a → NoA H dx → dx ≠ a → ∃ (dvs : List V) (ds : List Value), Binds X.K fd ps ds ∧ Vals dvs ds ∧ sp (.ref a :: (vs ++ dvs)) (upd (upd H dx (.own a)) a (.ins C dx [])) (fun v H2 => v = .non ∧ Q (.ref a) H2) (fun cls d H' => XW X cls d σ H')) : wpAny (model X.prog X.w) X.A (call (.ref C) us) (EP X pins σ Q) X.xe s := by
  have f1 : NoA H (s.heap.objs.size + 1) := ⟨I.hok.fresh (Nat.le_succ _)⟩
  have f2 : NoA H s.heap.objs.size := ⟨I.hok.fresh (Nat.le_refl _)⟩
  obtain ⟨dvs, ds, hb, hd, want⟩ := h _ _ f1 f2 (Nat.ne_of_lt (Nat.lt_succ_self _))
  have made := Inv.made (C := C) I
  have vals : Vals (V.ref (s.heap.objs.size + 1) :: (vs ++ dvs)) (Value.ref (s.heap.objs.size + 1) :: (us ++ ds)) := .cons rfl (r.append hd)
  have len : (Value.ref (s.heap.objs.size + 1) :: us ++ ds).length = ps.length := (vals.length.symm.trans (F.len _ _ _ _ want) : _)
  have bind := hb _ (Value.ref (s.heap.objs.size + 1) :: us) made.kIn len
  have body := F.run _ X.stack _ _ ⟨Value.ref (s.heap.objs.size + 1) :: us, []⟩ _ _ _ _ (hr.make C us []) (made.env0.make C us []) bind vals want
  refine wpAny_call (make_map (f := f) I.kIn M.makes M.init (beq_iff_eq.mp M.fn) (codeAny_mono body fun r s' got => ?_))
  cases r with
  | error ev => exact takes_xw ev s' (L2N.XE.of_call made (fun cls d H' w => w) got)
  | ok fl =>
    cases fl with
    | ret u =>
      obtain ⟨v, H', J, rv, ev, q3⟩ := made.after got
      subst ev
      exact ⟨rv, V.ref (s.heap.objs.size + 1), H', J, rfl, q3⟩
    | next => exact got.elim
    | brk => exact got.elim
    | cont => exact got.elim
theorem ze_make {x : Str} {C : Addr} {k j : Nat} {sp : Sp} (c : CalC X.prog X.w X.K X.mg X.base k x C sp) (hr : Room j X.A) (hk : k + 1 ≤ j) (h : ZA X (e :: es) σ H fun vs H1 => ∀ a dx, NoA H1 a → NoA H1 dx → dx ≠ a → sp (.ref a :: vs) (upd (upd H1 dx (.own a)) a (.ins C dx [])) (fun v H2 => v = .non ∧ Q (.ref a) H2) (fun cls d H' => XW X cls d σ H')) (hg : Gl X x)
    (hdb : (x == ("__debug__" : Str)) = false) (he : starEach (e :: es) X.env = (false, eval e X.env) :: starEach es X.env) (hpl : (backTo pos (starEach es X.env)).any (·.1) = false) : ZE X (.Call (.Name x p) (e :: es) [] pos) σ H Q := by
  obtain ⟨f, fd, ps, sp0, M, F, gm, im⟩ := c.ex
  refine ⟨fun pins s I => ?_⟩
  refine wpAny_Call_Name_kw (ld_glob I hg gm ?_ hdb)
  refine PySem.W.callWith_K (h₀ := X.base) I.ok.mod.kin M.kp (thn (h.run pos pins s I) fun us s1 ⟨vs, H1, I1, r, q⟩ => ⟨I1.kIn, ?_⟩) he hpl
  exact mrun M F (hr.mono hk) I1 r fun a dx n1 n2 ne => im (.ref a :: vs) _ _ _ (q a dx n1 n2 ne)
theorem s_make {P : Program} {w : World} {K : PySem.W.Frag} {mg : Str → Option Value} {base : Heap} {A : Around} {x : Str} {C : Addr} {k j : Nat} {sp : Sp} (c : CalC P w K mg base k x C sp) (hr : Room j A) (hk : k + 1 ≤ j) (hX : XIs X P w K mg base A)
    (h : ZA X (e :: es) σ H fun vs H1 => ∀ a dx, NoA H1 a → NoA H1 dx → dx ≠ a → sp (.ref a :: vs) (upd (upd H1 dx (.own a)) a (.ins C dx [])) (fun v H2 => v = .non ∧ Q (.ref a) H2) (fun cls d H' => XW X cls d σ H')) (hg : Gl X x)
    (hdb : (x == ("__debug__" : Str)) = false) (he : starEach (e :: es) X.env = (false, eval e X.env) :: starEach es X.env) (hpl : (backTo pos (starEach es X.env)).any (·.1) = false) : ZE X (.Call (.Name x p) (e :: es) [] pos) σ H Q := by
  obtain ⟨rfl, rfl, rfl, rfl, rfl, rfl⟩ := hX
  exact ze_make c hr hk h hg hdb he hpl
end
/-- what the written part says of an own class for isinstance -/
structure ClsI (K : PySem.W.Frag) (C : Addr) : Prop where
  cl : Cls K C
  ha : PySem.W.findIn K (.ref C) "__class__" = some (some (.builtin "object.__class__"))
  hn : PySem.W.specialIn K (.builtin "object.__class__") "__get__" = some (some (.builtin "getset_descriptor.__get__"))
  ht : PySem.W.takesIn K (.builtin "object.__class__") = some true
  hm : PySem.W.mroIn K C (.type "object") = some true
theorem ClsI.ty {K : PySem.W.Frag} {C p dx : Addr} {H : Hp} {fs : List (Str × V)} (c : ClsI K C) (e : H p = some (.ins C dx fs)) : TyX K H (.ref p) (.ref C) := .base (.ins e c.cl c.ha c.hn c.ht c.hm)
theorem kit_self {K : PySem.W.Frag} {C : Addr} : PySem.W.kitOne K (.ref C) (.ref C) = some true := by
  unfold PySem.W.kitOne
  rw [if_pos (by simp)]
theorem putF_base (y : V) : putF "base" y [] = [(("base" : Str), y)] := rfl
end L2
namespace L2
open PySem PySem.Spec PyProof.Rows
/-! ### sizes in bits -/
def Bd (N : Nat) (i : Int) : Prop := i.natAbs < 2 ^ N
theorem Bd.mono {N M : Nat} {i : Int} (h : Bd N i) (l : N ≤ M) : Bd M i := Nat.lt_of_lt_of_le h (Nat.pow_le_pow_right (by decide) l)
theorem Bd.mul {N M : Nat} {i j : Int} (h : Bd N i) (k : Bd M j) : Bd (N + M) (i * j) := by
  unfold Bd at *
  rw [Int.natAbs_mul, Nat.pow_add]
  exact Nat.mul_lt_mul'' h k
theorem Bd.one : Bd 1 1 := by unfold Bd; decide
theorem Bd.pow {N : Nat} {i : Int} (h : Bd N i) : ∀ n : Nat, Bd (N * n + 1) (i ^ n)
  | 0 => by unfold Bd; simp
  | n + 1 => by
    have ih := Bd.pow h n
    rw [Int.pow_succ]
    exact (ih.mul h).mono (by rw [Nat.mul_succ]; omega)
theorem Bd.log {N : Nat} {i : Int} (h : Bd N i) : i.natAbs.log2 ≤ N := by
  by_cases z : i.natAbs = 0
  · rw [z]; simp
  · exact Nat.le_of_lt ((Nat.log2_lt z).mpr h)
theorem Bd.cmul {N M : Nat} {i j : Int} (h : Bd N i) (k : Bd M j) (l : N + M < 1000000) : CMulW i j := by
  unfold CMulW
  have a := h.log
  have b := k.log
  omega
theorem Bd.neg {N : Nat} {i : Int} (h : Bd N i) : Bd N (-i) := by unfold Bd at *; rwa [Int.natAbs_neg]
theorem Bd.of {N : Nat} {i : Int} (h1 : -(2 ^ N : Int) < i) (h2 : i < 2 ^ N) : Bd N i := by
  unfold Bd
  have : ((2 ^ N : Nat) : Int) = (2 : Int) ^ N := by push_cast; rfl
  omega
end L2
namespace L2
open PySem PySem.Spec PyProof.Rows
/-- for tg in reversed(range(n)): turn i takes n - 1 - i -/
theorem zs_forRev {X : Cx} {tg e : Expr} {body : List Stmt} {σ : St} {H : Hp} {nx bk ct : NX} {rt : VK} {pos p p2 rp rp2 : Pos} (hp : PassesOwn (model X.prog X.w) X.A X.env X.xe) (hc : X.calm = true) (hm : X.mg "range" = none) (hm2 : X.mg "reversed" = none)
    (h : ZE X e σ H fun x H1 => ∃ j : Nat, x = .int j ∧ j < 2 ^ 62 ∧ ∃ Iv : Nat → St → Hp → Prop, Iv 0 σ H1 ∧ (∀ (i : Nat) σ1 H2, i < j → Iv i σ1 H2 → ZG X tg (.int ((j - 1 - i : Nat) : Int)) σ1 H2 fun σ2 H3 => ZSs X body (Iv (i + 1)) rt nx (Iv (i + 1)) σ2 H3) ∧ ∀ σ1 H2, Iv j σ1 H2 → nx σ1 H2)
    (hg : Gl X "range" := by rfl) (hg2 : Gl X "reversed" := by rfl) (hs : ∀ x, foldedSetIterable (.Call (.Name "reversed" p) [.Call (.Name "range" p2) [e] [] rp] [] rp2) X.env x = pure x := by intro _; rfl)
    (na : starEach [e] X.env = (false, eval e X.env) :: starEach [] X.env := by rfl) (na2 : starEach [.Call (.Name "range" p2) [e] [] rp] X.env = (false, eval (.Call (.Name "range" p2) [e] [] rp) X.env) :: starEach [] X.env := by rfl) :
    ZS X (.For tg (.Call (.Name "reversed" p) [.Call (.Name "range" p2) [e] [] rp] [] rp2) body [] pos) nx rt bk ct σ H := by
  refine zs_for hp hc ((pi_revR (tg := tg) hg2 hm2 (prg_1 hg hm pe_we na) na2).w ?_) hs
  refine ⟨fun pins s I => thn (h.run pins s I) fun u s1 hh => ?_⟩
  obtain ⟨x, H1, I1, r1, j, ex, hj, Iv, i0, st, fi⟩ := hh
  refine ⟨x, H1, I1, r1, (j : Int), ex, by omega, by omega, by omega, by omega, ?_⟩
  have e0 : ((j : Int) - 0).toNat = j := by omega
  rw [e0]
  refine ⟨fun i m σ' H' => m = j - i ∧ i ≤ j ∧ Iv i σ' H', ⟨_, rfl, Nat.zero_le _, i0⟩, ?_⟩
  rintro i m σ' H' ⟨rfl, hi, iv⟩
  by_cases hlt : i < j
  · refine .inr ⟨hlt, Iv (i + 1), fun σ2 H2 q => ⟨_, by omega, rfl, hlt, q⟩, fun x H2 y => ?_⟩
    obtain ⟨rfl, rfl⟩ := y
    have := st i σ' _ hlt iv
    rw [show (0 + (j : Int) - 1 + (i : Int) * -1) = ((j - 1 - i : Nat) : Int) by omega]
    exact this
  · have e : i = j := by omega
    subst e
    exact .inl ⟨Nat.le_refl _, fi _ _ iv⟩
end L2

namespace L2
open PySem PySem.Spec PyProof.Rows
/-! ### sizes in digits of a base -/
def Sm (b : Int) (n : Nat) (c : Int) : Prop := c.natAbs < b.natAbs ^ n
theorem Sm.mono {b c : Int} {n m : Nat} (h : Sm b n c) (b1 : 1 ≤ b) (l : n ≤ m) : Sm b m c := Nat.lt_of_lt_of_le h (Nat.pow_le_pow_right (by omega) l)
theorem Sm.bd {b c : Int} {n : Nat} (h : Sm b n c) (b0 : 0 ≤ b) (b9 : b ≤ 36) : Bd (6 * n) c := by
  refine Nat.lt_of_lt_of_le h ?_
  rw [Nat.pow_mul]
  exact Nat.pow_le_pow_left (by omega) _
theorem Sm.mulp {b c : Int} {n : Nat} (h : Sm b n c) (b1 : 1 ≤ b) (k : Nat) : Sm b (n + k) (c * b ^ k) := by
  unfold Sm at *
  rw [Int.natAbs_mul, Int.natAbs_pow, Nat.pow_add]
  exact Nat.mul_lt_mul_of_pos_right h (Nat.pow_pos (by omega))
theorem Sm.step {b x d : Int} {n : Nat} (h : Sm b n x) (x0 : 0 ≤ x) (d0 : 0 ≤ d) (d9 : d < b) : Sm b (n + 1) (x * b + d) := by
  obtain ⟨x, rfl⟩ := Int.eq_ofNat_of_zero_le x0
  obtain ⟨d, rfl⟩ := Int.eq_ofNat_of_zero_le d0
  obtain ⟨b, rfl⟩ := Int.eq_ofNat_of_zero_le (show 0 ≤ b by omega)
  unfold Sm at *
  have e : ((x : Int) * (b : Int) + (d : Int)) = ((x * b + d : Nat) : Int) := by push_cast; rfl
  rw [e]
  simp only [Int.natAbs_natCast] at *
  have h1 : (x + 1) * b ≤ b ^ n * b := Nat.mul_le_mul_right _ h
  rw [Nat.add_mul] at h1
  rw [Nat.pow_succ]
  omega
theorem Sm.neg {b c : Int} {n : Nat} (h : Sm b n c) : Sm b n (-c) := by unfold Sm at *; rwa [Int.natAbs_neg]
theorem Sm.sgn {b c s : Int} {n : Nat} (h : Sm b n c) (hs : s.natAbs ≤ 1) : Sm b n (c * s) := by
  unfold Sm at *
  rw [Int.natAbs_mul]
  exact Nat.lt_of_le_of_lt (Nat.le_trans (Nat.mul_le_mul_left _ hs) (by rw [Nat.mul_one]; exact Nat.le_refl _)) h
theorem Sm.cnt {b r c : Int} {n k : Nat} (h : Sm b n c) (b2 : 2 ≤ b) (e : r * b ^ k = c) (c0 : c ≠ 0) : k < n := by
  unfold Sm at h
  rw [← e, Int.natAbs_mul, Int.natAbs_pow] at h
  have r0 : r.natAbs ≠ 0 := fun z => c0 (by rw [← e, Int.natAbs_eq_zero.mp z, Int.zero_mul])
  have h2 : b.natAbs ^ k ≤ r.natAbs * b.natAbs ^ k := Nat.le_mul_of_pos_left _ (by omega)
  exact (Nat.pow_lt_pow_iff_right (show 1 < b.natAbs by omega)).mp (Nat.lt_of_le_of_lt h2 h)
end L2
namespace L2
open PySem PySem.Spec PyProof.Rows
theorem binds_all {K : PySem.W.Frag} {fd : FuncData} {ps : List Str} {dvs : List V} {j : Nat} (h : ∃ ds, Vals (dvs.drop j) ds ∧ Binds K fd ps ds) (e : dvs.drop j = [] := by rfl) : Binds K fd ps [] := by
  obtain ⟨ds, v, b⟩ := h
  rw [e] at v
  cases v
  exact b
end L2
namespace L2
open PySem PySem.Spec PyProof.Rows
/-! ### properties of own classes (getters that raise nothing) -/
structure CalP (P : Program) (w : World) (K : PySem.W.Frag) (mg : Str → Option Value) (base : Heap) (k : Nat) (C : Addr) (f : Str) (sp : Sp) : Prop where
  ex : ∃ (p g : Addr) (fd : FuncData) (ps : List Str), PropOf K C f p g ∧ FnOk P w K mg base (L2N.CX P w) k g fd ps sp ∧ Binds K fd ps []
theorem aw_prop {X : Cx} {P : Program} {w : World} {K : PySem.W.Frag} {mg : Str → Option Value} {base : Heap} {A : Around} {H : Hp} {Q : VK} {a C dx : Addr} {fs : List (Str × V)} {f : Str} {k j : Nat} {sp : Sp} (c : CalP P w K mg base k C f sp) (cl : Cls K C) (hr : Room j A) (hk : k + 1 ≤ j) (hX : XIs X P w K mg base A) (ea : H a = some (.ins C dx fs)) (h : sp [.ref a] H Q (fun _ _ _ => False)) : AtW X f (.ref a) H Q := by
  obtain ⟨rfl, rfl, rfl, rfl, rfl, rfl⟩ := hX
  obtain ⟨p, g, fd, ps, hp, F, hb⟩ := c.ex
  refine ⟨fun pins s σ u I rx => ?_⟩
  obtain rfl : u = Value.ref a := rx
  exact getprop_ok (CX := L2N.CX X.prog X.w) (dvs := []) (ds := []) I ea cl hp F (hr.mono hk) hb .nil (fun _ _ _ _ _ _ _ z => (cxn_no (fun _ _ _ z => z) z).elim) h
end L2
namespace L2
open PySem PySem.Spec PyProof.Rows
/-! ### operators by own methods -/
section
variable {X : Cx} {P : Program} {w : World} {K : PySem.W.Frag} {mg : Str → Option Value} {base : Heap} {A : Around} {σ : St} {H : Hp} {Q : VK} {a b C C' dx dy : Addr} {fs gs : List (Str × V)} {m : Str} {k j : Nat} {sp : Sp} {y : V}
theorem own_run {pins : List (Addr × Obj)} {s : Shared} {v : Value} (cm : CalM X.prog X.w X.K X.mg X.base k C m sp) (hr : Room j X.A) (hk : k ≤ j) (I : Inv X pins σ H s) (ry : RelV y v) (h : sp [.ref a, y] H Q fun cls d H' => XW X cls d σ H') :
    ∃ f, PySem.W.findIn X.K (.ref C) m = some (some (.ref f)) ∧ PySem.W.isFn X.K (.ref f) = true ∧ wpAny (model X.prog X.w) X.A (call (.ref f) [.ref a, v]) (PySem.W.CmpBack (EP X pins σ Q)) X.xe s := by
  obtain ⟨f, fd, ps, dvs, ds, sp0, F, hm, hb, hd, im⟩ := cm.ex
  refine ⟨f, hm.at_, hm.fn, ?_⟩
  refine wpAny_mono (zrun (us := [.ref a, v]) (vs := [.ref a, y]) F (hr.mono hk) hb hd I (.cons rfl (.cons ry .nil)) (im _ _ _ _ h)) (fun u s' z => ?_) fun _ _ x => x
  obtain ⟨z', H', I', rz, qz⟩ := z
  exact SlX.cmpback rz ⟨z', H', I', rz, qz⟩
theorem ins_inst {pins : List (Addr × Obj)} {s : Shared} (I : Inv X pins σ H s) (ea : H a = some (.ins C dx fs)) : ∃ o od, PySem.W.InstAt s.heap a o C od := by
  obtain ⟨mA, O, _⟩ := ins_get I.hok ea
  obtain ⟨od, J, _⟩ := O.look
  exact ⟨_, _, J⟩
/-- x op y, both of one own class -/
theorem ow_own {op : Operator} (cm : CalM P w K mg base k C m sp) (hc : PySem.W.selfFirst K C = true) (hr : Room j A) (hk : k ≤ j) (hX : XIs X P w K mg base A) (hm : PySem.dunder op.info.2 = m) (ea : H a = some (.ins C dx fs)) (eb : H b = some (.ins C dy gs))
    (h : sp [.ref a, .ref b] H Q fun cls d H' => XW X cls d σ H') : OpW X σ (binaryOp op) (.ref a) (.ref b) H Q := by
  obtain ⟨rfl, rfl, rfl, rfl, rfl, rfl⟩ := hX
  refine ⟨fun pins s v u I rx ry => ?_⟩
  cases (show v = Value.ref a from rx)
  cases (show u = Value.ref b from ry)
  obtain ⟨_, _, J⟩ := ins_inst I ea
  obtain ⟨_, _, J'⟩ := ins_inst I eb
  obtain ⟨mm, hF⟩ := I.fr
  obtain ⟨f, h1, h2, h3⟩ := own_run (a := a) (y := .ref b) (v := .ref b) cm hr hk I rfl h
  exact PySem.W.binop_K hF I.ok.mod.kin J J'.type hc (by rw [hm]; exact h1) h2 h3
/-- what the written part says of an operator with an int on the right -/
structure BinT (K : PySem.W.Frag) (C : Addr) (nm : String) : Prop where
  hr : ∃ rc, PySem.W.findIn K (.ref C) (PySem.dunderR nm) = some rc ∧ (rc = none ∨ ∃ g : Addr, rc = some (.ref g))
  h1 : ∃ fo, PySem.W.findIn K (.type "int") (PySem.dunder nm) = some fo
  h2 : ∃ ro, PySem.W.findIn K (.type "int") (PySem.dunderR nm) = some ro
  hsub : PySem.W.subIn K (.type "int") (.ref C) = some false
/-- x op i, x of an own class -/
theorem ow_ownI {op : Operator} {i : Int} (cm : CalM P w K mg base k C m sp) (hc : PySem.W.selfFirst K C = true) (T : BinT K C op.info.2) (hr : Room j A) (hk : k ≤ j) (hX : XIs X P w K mg base A) (hm : PySem.dunder op.info.2 = m) (ea : H a = some (.ins C dx fs))
    (h : sp [.ref a, .int i] H Q fun cls d H' => XW X cls d σ H') : OpW X σ (binaryOp op) (.ref a) (.int i) H Q := by
  obtain ⟨rfl, rfl, rfl, rfl, rfl, rfl⟩ := hX
  refine ⟨fun pins s v u I rx ry => ?_⟩
  cases (show v = Value.ref a from rx)
  obtain ⟨t, rfl⟩ := ry
  obtain ⟨_, _, J⟩ := ins_inst I ea
  obtain ⟨mm, hF⟩ := I.fr
  obtain ⟨f, h1, h2, h3⟩ := own_run (a := a) (y := .int i) (v := .int i t) cm hr hk I ⟨t, rfl⟩ h
  obtain ⟨⟨rc, r1, r2⟩, ⟨fo, t1⟩, ⟨ro, t2⟩, sb⟩ := T
  exact PySem.W.ksp_binT (T := "int") hF I.ok.mod.kin J rfl hc (by rw [hm]; exact h1) h2 r1 r2 t1 t2 sb h3
/-- x cmp y, both of own classes -/
theorem ow_ownC {op : CmpOp} (hop : ∀ a b, compareOp op a b = richCompare op a b) (cm : CalM P w K mg base k C m sp) (hn : PySem.W.notFirst K C (.ref C') = true) (hr : Room j A) (hk : k ≤ j) (hX : XIs X P w K mg base A) (hm : (cmpInfo op).2.1 = m) (ea : H a = some (.ins C dx fs)) (eb : H b = some (.ins C' dy gs))
    (h : sp [.ref a, .ref b] H Q fun cls d H' => XW X cls d σ H') : OpW X σ (compareOp op) (.ref a) (.ref b) H Q := by
  obtain ⟨rfl, rfl, rfl, rfl, rfl, rfl⟩ := hX
  refine ⟨fun pins s v u I rx ry => ?_⟩
  cases (show v = Value.ref a from rx)
  cases (show u = Value.ref b from ry)
  obtain ⟨_, _, J⟩ := ins_inst I ea
  obtain ⟨_, _, J'⟩ := ins_inst I eb
  obtain ⟨mm, hF⟩ := I.fr
  obtain ⟨f, h1, h2, h3⟩ := own_run (a := a) (y := .ref b) (v := .ref b) cm hr hk I rfl h
  rw [hop]
  exact PySem.W.cmp_K (op := op) (tb := .ref C') hr.units0 hF I.ok.mod.kin J J'.type hn (by rw [hm]; exact h1) h2 h3
theorem notFirst_self : PySem.W.notFirst K C (.ref C) = true := by simp [PySem.W.notFirst]
end
theorem CalM.of {P : Program} {w : World} {K : PySem.W.Frag} {mg : Str → Option Value} {base : Heap} {k : Nat} {C f : Addr} {m : Str} {fd : FuncData} {ps : List Str} {sp : Sp} (M : Meth K C m f) (F : FnOk P w K mg base (L2N.CX P w) k f fd ps sp) (b : Binds K fd ps []) : CalM P w K mg base k C m sp :=
  ⟨f, fd, ps, [], [], sp, F, M, b, .nil, fun vs H Q E h => by rw [List.append_nil]; exact h⟩
end L2
namespace L2
open PySem PySem.Spec PyProof.Rows
/-! ### steps for them -/
inductive BinM : Operator → Str → Prop
  | add : BinM .Add "__add__" | sub : BinM .Sub "__sub__" | mul : BinM .Mult "__mul__" | fdiv : BinM .FloorDiv "__floordiv__" | mod : BinM .Mod "__mod__" | pow : BinM .Pow "__pow__" | shl : BinM .LShift "__lshift__" | shr : BinM .RShift "__rshift__" | div : BinM .Div "__truediv__" | band : BinM .BitAnd "__and__"
theorem BinM.ok {op : Operator} {m : Str} (h : BinM op m) : PySem.dunder op.info.2 = m := by cases h <;> decide +kernel
inductive CmpM : CmpOp → Str → Prop
  | lt : CmpM .Lt "__lt__" | le : CmpM .LtE "__le__" | gt : CmpM .Gt "__gt__" | ge : CmpM .GtE "__ge__" | eq : CmpM .Eq "__eq__"
theorem CmpM.ok {op : CmpOp} {m : Str} (h : CmpM op m) : (cmpInfo op).2.1 = m ∧ ∀ a b, compareOp op a b = richCompare op a b := by cases h <;> exact ⟨by decide +kernel, fun _ _ => rfl⟩
/-- x is an object of the class at C, m no field of it -/
structure OwnAt (H : Hp) (C : Addr) (m : Str) (x : V) (R : Prop) : Prop where
  ex : ∃ p dx fs, x = .ref p ∧ H p = some (.ins C dx fs) ∧ fs.lookup m = none ∧ R
section
variable {X : Cx} {P : Program} {w : World} {K : PySem.W.Frag} {mg : Str → Option Value} {base : Heap} {A : Around} {σ : St} {H : Hp} {Q : VK} {a b C C' dx dy : Addr} {fs gs : List (Str × V)} {m : Str} {k j : Nat} {sp : Sp} {y : V} {e o : Expr} {es : List Expr} {pos apos : Pos}
theorem OwnAt.do {R : Prop} (e : H a = some (.ins C dx fs)) (l : fs.lookup m = none) (r : R) : OwnAt H C m (.ref a) R := ⟨_, _, _, rfl, e, l, r⟩
theorem ow_bin {op : Operator} (bm : BinM op m) (cm : CalM P w K mg base k C m sp) (hc : PySem.W.selfFirst K C = true) (hr : Room j A) (hk : k ≤ j) (hX : XIs X P w K mg base A) (ea : H a = some (.ins C dx fs)) (eb : H b = some (.ins C dy gs))
    (h : sp [.ref a, .ref b] H Q fun cls d H' => XW X cls d σ H') : OpW X σ (binaryOp op) (.ref a) (.ref b) H Q := ow_own cm hc hr hk hX bm.ok ea eb h
theorem ow_binI {op : Operator} {i : Int} (bm : BinM op m) (cm : CalM P w K mg base k C m sp) (hc : PySem.W.selfFirst K C = true) (T : BinT K C op.info.2) (hr : Room j A) (hk : k ≤ j) (hX : XIs X P w K mg base A) (ea : H a = some (.ins C dx fs))
    (h : sp [.ref a, .int i] H Q fun cls d H' => XW X cls d σ H') : OpW X σ (binaryOp op) (.ref a) (.int i) H Q := ow_ownI cm hc T hr hk hX bm.ok ea h
theorem ow_cmpO {op : CmpOp} (bm : CmpM op m) (cm : CalM P w K mg base k C m sp) (hr : Room j A) (hk : k ≤ j) (hX : XIs X P w K mg base A) (ea : H a = some (.ins C dx fs)) (eb : H b = some (.ins C dy gs))
    (h : sp [.ref a, .ref b] H Q fun cls d H' => XW X cls d σ H') : OpW X σ (compareOp op) (.ref a) (.ref b) H Q := ow_ownC bm.ok.2 cm notFirst_self hr hk hX bm.ok.1 ea eb h
theorem s_meth {pl : Sem Bool} (cm : CalM P w K mg base k C m sp) (cl : Cls K C) (hr : Room j A) (hk : k ≤ j) (hX : XIs X P w K mg base A) (h : ZE X o σ H fun x H1 => OwnAt H1 C m x (ZA X (e :: es) σ H1 fun vs H2 => sp (x :: vs) H2 Q fun cls d H' => XW X cls d σ H'))
    (hst : starEach (e :: es) X.env = (false, eval e X.env) :: starEach es X.env) (hpl : (backTo pos (starEach es X.env)).any (·.1) = false)
    (ht : eval (.Call (.Attribute o m apos) (e :: es) [] pos) X.env = (do
      let ov ← eval o X.env
      standAt apos.atName
      let (f, first) ← holding [ov] (getMethod ov m pl)
      callWith pos f first (backTo pos (starEach (e :: es) X.env)) (backToKw pos (keywordEach [] X.env)))) : ZE X (.Call (.Attribute o m apos) (e :: es) [] pos) σ H Q := by
  obtain ⟨rfl, rfl, rfl, rfl, rfl, rfl⟩ := hX
  refine ze_meth (pl := pl) hr ⟨fun pins s I => thn (h.run pins s I) fun u s1 ⟨x, H1, I1, rx, ⟨p, dx, fs, ex, ea, l, q⟩⟩ => ?_⟩ hst hpl ht
  exact ⟨x, H1, I1, rx, p, C, dx, fs, k, sp, ex, ea, cl, cm, hk, l, q⟩
theorem s_meth0 {pl : Sem Bool} (cm : CalM P w K mg base k C m sp) (cl : Cls K C) (hr : Room j A) (hk : k ≤ j) (hX : XIs X P w K mg base A) (h : ZE X o σ H fun x H1 => OwnAt H1 C m x (sp [x] H1 Q fun cls d H' => XW X cls d σ H'))
    (ht : eval (.Call (.Attribute o m apos) [] [] pos) X.env = (do
      let ov ← eval o X.env
      standAt apos.atName
      let (f, first) ← holding [ov] (getMethod ov m pl)
      callWith pos f first (backTo pos (starEach [] X.env)) (backToKw pos (keywordEach [] X.env)))) : ZE X (.Call (.Attribute o m apos) [] [] pos) σ H Q := by
  obtain ⟨rfl, rfl, rfl, rfl, rfl, rfl⟩ := hX
  obtain ⟨f, fd, ps, dvs, ds, sp0, F, hm, hb, hd, im⟩ := cm.ex
  refine ⟨fun pins s I => ?_⟩
  refine PySem.W.methodCall_KW (pl := pl) (thn (h.run pins s I) fun u s1 ⟨x, H1, I1, rx, ⟨p, dx, fs, ex, ea, l, q⟩⟩ => ?_) ht
  subst ex
  obtain rfl : u = Value.ref p := rx
  refine getmeth_ok I1 ea cl hm l ?_
  exact PySem.W.callWith_K0 (first := [.ref p]) I1.kIn hm.kp (zrun (us := [.ref p]) (vs := [.ref p]) F (hr.mono hk) hb hd I1 (.cons rfl .nil) (im _ _ _ _ q))
end
end L2
namespace L2
theorem Sm.pow {b : Int} (h : 2 ≤ b) (n : Nat) : Sm b (n + 1) (b ^ n) := by
  unfold Sm
  rw [Int.natAbs_pow]
  exact Nat.pow_lt_pow_right (by omega) (by omega)
theorem Sm.near {b c d : Int} {n : Nat} (h : Sm b n c) (b2 : 2 ≤ b) (hd : d.natAbs ≤ 1) : Sm b (n + 1) (c + d) := by
  unfold Sm at *
  have h1 : b.natAbs ^ n * 2 ≤ b.natAbs ^ n * b.natAbs := Nat.mul_le_mul_left _ (by omega)
  rw [Nat.pow_succ]
  omega
theorem Sm.ge {b c : Int} {n j : Nat} (h : Sm b n c) (hb : 2 ≤ b) (g : b ^ j ≤ (c.natAbs : Int)) : j < n := by
  unfold Sm at h
  have : ((b.natAbs ^ j : Nat) : Int) ≤ c.natAbs := by push_cast; rw [show ((b.natAbs : Nat) : Int) = b by omega]; exact g
  exact (Nat.pow_lt_pow_iff_right (show 1 < b.natAbs by omega)).mp (Nat.lt_of_le_of_lt (by omega) h)
end L2
namespace L2
theorem ipow_le {b : Int} (h : 1 ≤ b) {j k : Nat} (l : j ≤ k) : b ^ j ≤ b ^ k := by
  have p1 : (0 : Int) < b ^ j := Int.pow_pos (by omega)
  have p2 : (0 : Int) < b ^ (k - j) := Int.pow_pos (by omega)
  have m := Int.mul_le_mul_of_nonneg_left (Int.add_one_le_of_lt p2) (Int.le_of_lt p1)
  rwa [Int.zero_add, Int.mul_one, ← Int.pow_add, show j + (k - j) = k by omega] at m
end L2
namespace L2
open PySem PySem.Spec PyProof.Rows
theorem xw_lstN {X : Cx} {σ : St} {H : Hp} {Q : VK} {p : Addr} {xs : List V} {i : Int} {j : Nat} {v : V} (e : i = (j : Int)) (hs : SqL X.K H p xs) (g : xs[j]? = some v) (h : Q v H) : IxW X σ (.ref p) (.int i) H Q := by
  subst e; exact xw_lst hs (atI_nat g) h
end L2
namespace L2N
open PySem PySem.Spec PyProof.Rows L2
section
variable {X : Cx} {C : Addr} {bmB : List Value} {B newId initId : String}
/-- X(), X an own exception class without own __init__ -/
theorem pmk_own0 {x : Str} {p pos : Pos} (F : ExcBaseFacts B newId initId bmB) (q : PySem.W.excIn X.K C bmB newId = true) (gC : X.mg x = some (.ref C)) (kC : PySem.W.keepIn X.K (.ref C) = true) (r : Raises X (.ref C)) (hg : Gl X x)
    (hdb : (x == ("__debug__" : Str)) = false) : PMk X (.Call (.Name x p) [] [] pos) (fun _ H Q => Q (.ref C) none H) := by
  intro pins s σ H Q I h
  refine wpAny_Call_Name_kw (ld_glob I hg gC ?_ hdb)
  refine PySem.W.callWith_K0 I.kIn kC ?_
  obtain ⟨bm, N, nm, qn, bs, hdct, sn, sub, ab, col, dd, k0, k1, k2, k3, k5, mN, hC, hN, hni, T⟩ := exc_obj I.kIn q
  exact wpAny_call_exc_subT F T hC hN hni (fun h' e hm => mk_of I hm r h (I.hok.gone hm.new)) (Nat.zero_le _)
end
end L2N
namespace L2
open PySem PySem.Spec PyProof.Rows
/-- an own exception class without own __init__, below ValueError -/
structure XCls0 (K : PySem.W.Frag) (mg : Str → Option Value) (x : Str) (C : Addr) : Prop where
  T : PySem.LX.ExcT K C
  gC : mg x = some (.ref C)
  q : PySem.W.excIn K C [.type "ValueError", .type "Exception", .type "BaseException", .type "object"] "ValueError.__new__" = true
theorem s_raise0 {X : Cx} {σ : St} {H : Hp} {nx bk ct : NX} {rt : VK} {p pos pos2 : Pos} {P : Program} {w : World} {K : PySem.W.Frag} {mg : Str → Option Value} {base : Heap} {A : Around} {x : Str} {C : Addr} (c : XCls0 K mg x C) (hX : XIs X P w K mg base A) (hc : X.calm = true)
    (h : XW X (.ref C) none σ H) (hg : Gl X x) (hdb : (x == ("__debug__" : Str)) = false) : ZS X (.Raise (some (.Call (.Name x p) [] [] pos)) none pos2) nx rt bk ct σ H := by
  obtain ⟨rfl, rfl, rfl, rfl, rfl, rfl⟩ := hX
  exact (L2N.ps_raise hc takes_xw (L2N.pmk_own0 PySem.F.excBase_ValueError c.q c.gC c.T.ox.kC (raises_own c.T.ox.exC c.T.ox.tyC) hg hdb)).w h
end L2
namespace L2
open PySem PySem.Spec PyProof.Rows
def CDivA (_ j : Int) : Prop := j ≠ 0 ∧ j.natAbs.log2 < 9000
theorem ow_fdivA {X : Cx} {σ : St} {H : Hp} {Q : VK} {i j : Int} (hc : CDivA i j) (h : Q (.int (i.fdiv j)) H) : OpW X σ (binaryOp .FloorDiv) (.int i) (.int j) H Q :=
  OpR.w (r := rI CDivA fun i j => .int (i.fdiv j)) (opI fun _ _ _ _ _ _ _ hc q => floordiv_int hc.1 q (.inl (PyProof.noPylong_of_log2 hc.2))) ⟨i, j, rfl, rfl, hc, h⟩
end L2
namespace L2
open PySem PySem.Spec PyProof.Rows
theorem zg_lst {X : Cx} {es : List Expr} {σ : St} {H : Hp} {pos : Pos} {k : Nat} {n : Nat} {v : V} {Q : St → Hp → Prop} (hc : X.calm = true) (h : ∃ p xs, v = .ref p ∧ SqL X.K H p xs ∧ xs.length = n ∧ ZGs X es xs σ H Q)
    (hn : (assignEach es X.env).length = n := by rfl) (hst : (assignEach es X.env).findIdx? (·.1) = none := by rfl) : ZG X (.Tuple es k pos) v σ H Q := (pg_unl hc pgs_wgs hn hst).w h
end L2
namespace L2
open PySem PySem.Spec PyProof.Rows
/-- for tg in range(n), within an except suite's call -/
theorem zs_forRH {X : Cx} {tg e : Expr} {body : List Stmt} {σ : St} {H : Hp} {nx bk ct : NX} {rt : VK} {pos p rpos : Pos} (hp : PassesOwn (model X.prog X.w) X.A X.env X.xe) (hc : L2H.HotC X) (hm : X.mg "range" = none)
    (h : ZA X [e] σ H fun vs H1 => ∃ j : Int, vs = [.int j] ∧ -(2 ^ 62) ≤ j ∧ j < 2 ^ 62 ∧ ∃ Iv : Nat → St → Hp → Prop, Iv 0 σ H1 ∧
      (∀ (i : Nat) σ1 H2, (i : Int) < j → Iv i σ1 H2 → ZG X tg (.int i) σ1 H2 fun σ2 H3 => ZSs X body (Iv (i + 1)) rt nx (Iv (i + 1)) σ2 H3) ∧ ∀ σ1 H2, Iv j.toNat σ1 H2 → nx σ1 H2)
    (hg : Gl X "range" := by rfl) (hst : starEach [e] X.env = [(false, eval e X.env)] := by rfl) (hs : ∀ x, foldedSetIterable (.Call (.Name "range" p) [e] [] rpos) X.env x = pure x := by intro _; rfl) :
    ZS X (.For tg (.Call (.Name "range" p) [e] [] rpos) body [] pos) nx rt bk ct σ H := by
  refine (L2H.ps_forH hp hc (L2H.pi_range1H hg hm pa_wa hst) pg_wg pss_wss hs).w ?_
  refine ⟨fun ps pins s I => thn (h.run ps pins s I) fun u s1 hh => ?_⟩
  obtain ⟨vs, H1, I1, r1, j, ex, l1, l2, Iv, i0, st, fi⟩ := hh
  refine ⟨vs, H1, I1, r1, j, ex, l1, l2, fun i m σ' H' => m = j.toNat - i ∧ i ≤ j.toNat ∧ Iv i σ' H', ⟨_, rfl, Nat.zero_le _, i0⟩, ?_⟩
  rintro i m σ' H' ⟨rfl, hi, iv⟩
  by_cases hlt : i < j.toNat
  · refine .inr ⟨hlt, Iv (i + 1), fun σ2 H2 q => ⟨_, by omega, rfl, hlt, q⟩, fun x H2 y => ?_⟩
    obtain ⟨rfl, rfl⟩ := y
    have := st i σ' _ (by omega) iv
    simpa using this
  · have e : i = j.toNat := by omega
    subst e
    exact .inl ⟨Nat.le_refl _, fi _ _ iv⟩
theorem pass_defH {P : Program} {w : World} {K : PySem.W.Frag} {mg : Str → Option Value} {base : Heap} {N : List Str} {qual : Str} {scope : Scope} {f : Addr} {cd : Value} {A : Around} {outer : List Env} {s : Shared} {H0 : Hp} {E : XK} {p : Addr × Obj} : PassesOwn (model P w) (L2H.cxH (L2N.CX P w) P w K mg base N qual scope f cd A outer s H0 E p).A (L2H.cxH (L2N.CX P w) P w K mg base N qual scope f cd A outer s H0 E p).env (L2H.cxH (L2N.CX P w) P w K mg base N qual scope f cd A outer s H0 E p).xe := passes_of rfl
end L2
namespace L2
open PySem PySem.Spec PyProof.Rows
section
variable {X : Cx} {elt tg iter : Expr} {scope : Scope} {own : List (Str × Nat)} {pos spos py : Pos} {σ : St} {H : Hp} {nx bk ct : NX} {rt : VK} {i : Nat} {y : Str}
/-- y = [elt for tg in iter] -/
theorem zs_lcL (hc : X.calm = true) (hN : X.N.Nodup) (hy : X.N[i]? = some y) (hyl : X.env.scope.names.lookup y = some .local) (hsw : swapsWith (.ListComp elt [⟨tg, iter, [], 0⟩] scope pos) (some (.Name y py)) spos.line X.env = pure true) (ok : BlkOk X.N X.env.scope scope own)
    (h : ZE X iter σ H fun x H1 => ∃ a xs, x = .ref a ∧ SqL X.K H1 a xs ∧ ∀ D, NoA H1 D → ∃ Pv : Nat → Hp → Prop, Pv 0 (upd H1 D (.lst [])) ∧ (∀ i H, i ≤ xs.length → Pv i H → SqL X.K H a xs) ∧
      (∀ i x H, xs[i]? = some x → Pv i H → gBlk X scope tg x (wipe σ (own.map (·.2))) H fun σ2 H2 => wipe σ2 (own.map (·.2)) = wipe σ (own.map (·.2)) ∧ eBlk X scope elt σ2 H2 fun y H4 => ∃ acc, H4 D = some (.lst acc) ∧ acc.length < sizeLine ∧ Pv (i + 1) (upd H4 D (.lst (acc ++ [y])))) ∧
      ∀ H, Pv xs.length H → nx (σ.set i (some (.ref D))) H)
    (hs : ∀ x, foldedSetIterable iter X.env x = pure x := by intro _; rfl) : ZS X (.Assign [.Name y py] (.ListComp elt [⟨tg, iter, [], 0⟩] scope pos) spos) nx rt bk ct σ H := by
  refine (ps_setLc (tt := tYes) hc hN hy hyl hsw (pi_list (tg := tg) pe_we) ok pg_blk (fun _ _ _ _ _ => pts_nil) pe_blk hs).w ?_
  refine ⟨fun pins s I => thn (h.run pins s I) fun u s1 hh => ?_⟩
  obtain ⟨x, H1, I1, r1, a, xs, ex, hl, k⟩ := hh
  refine ⟨x, H1, I1, r1, a, ex, ⟨xs, hl⟩, fun D hD => ?_⟩
  obtain ⟨Pv, h0, hk, hs', hd⟩ := k D ⟨hD⟩
  refine lc_list (g := gBlk X scope tg) (te := eBlk X scope elt) (tt := tYes) Pv h0 hk (fun i x H hx hp => ?_) hd
  exact hs' i x _ hx hp
/-- y = [elt for tg in range(n)] -/
theorem zs_lcR {e : Expr} {p rpos : Pos} (hc : X.calm = true) (hN : X.N.Nodup) (hy : X.N[i]? = some y) (hyl : X.env.scope.names.lookup y = some .local) (hsw : swapsWith (.ListComp elt [⟨tg, .Call (.Name "range" p) [e] [] rpos, [], 0⟩] scope pos) (some (.Name y py)) spos.line X.env = pure true) (ok : BlkOk X.N X.env.scope scope own) (hm : X.mg "range" = none)
    (h : ZA X [e] σ H fun vs H1 => ∃ j : Int, vs = [.int j] ∧ -(2 ^ 62) ≤ j ∧ j < 2 ^ 62 ∧ ∀ D, NoA H1 D → ∃ Pv : Nat → Hp → Prop, Pv 0 (upd H1 D (.lst [])) ∧
      (∀ (i : Nat) H, i < j.toNat → Pv i H → gBlk X scope tg (.int i) (wipe σ (own.map (·.2))) H fun σ2 H2 => wipe σ2 (own.map (·.2)) = wipe σ (own.map (·.2)) ∧ eBlk X scope elt σ2 H2 fun y H4 => ∃ acc, H4 D = some (.lst acc) ∧ acc.length < sizeLine ∧ Pv (i + 1) (upd H4 D (.lst (acc ++ [y])))) ∧
      ∀ H, Pv j.toNat H → nx (σ.set i (some (.ref D))) H)
    (hg : Gl X "range" := by rfl) (hst : starEach [e] X.env = [(false, eval e X.env)] := by rfl) (hs : ∀ x, foldedSetIterable (.Call (.Name "range" p) [e] [] rpos) X.env x = pure x := by intro _; rfl) : ZS X (.Assign [.Name y py] (.ListComp elt [⟨tg, .Call (.Name "range" p) [e] [] rpos, [], 0⟩] scope pos) spos) nx rt bk ct σ H := by
  refine (ps_setLc (tt := tYes) hc hN hy hyl hsw (pi_range1 (tg := tg) hg hm pa_wa hst) ok pg_blk (fun _ _ _ _ _ => pts_nil) pe_blk hs).w ?_
  refine ⟨fun ps pins s I => thn (h.run ps pins s I) fun u s1 hh => ?_⟩
  obtain ⟨vs, H1, I1, r1, j, ex, l1, l2, k⟩ := hh
  refine ⟨vs, H1, I1, r1, j, ex, l1, l2, fun D hD => ?_⟩
  obtain ⟨Pv, h0, hs', hd⟩ := k D ⟨hD⟩
  exact lc_range (lo := 0) (g := gBlk X scope tg) (te := eBlk X scope elt) (tt := tYes) Pv h0 (fun i H hx hp => by
    have := hs' i _ hx hp
    rw [Int.zero_add]
    exact this) hd
end
end L2
namespace L2
open PySem PySem.Spec PyProof.Rows
/-! ### in, abs by own methods; constants of a class; keywords -/
section
variable {X : Cx} {P : Program} {w : World} {K : PySem.W.Frag} {mg : Str → Option Value} {base : Heap} {A : Around} {σ : St} {H : Hp} {Q : VK} {a C dx : Addr} {fs : List (Str × V)} {k j : Nat} {sp : Sp} {y : V}
/-- y in x, x of an own class -/
theorem ow_inO (cm : CalM P w K mg base k C "__contains__" sp) (hr : Room j A) (hk : k ≤ j) (hX : XIs X P w K mg base A) (ea : H a = some (.ins C dx fs))
    (h : sp [.ref a, y] H (fun v H' => ∃ b, v = .bl b ∧ Q (.bl b) H') fun cls d H' => XW X cls d σ H') : OpW X σ (compareOp .In) y (.ref a) H Q := by
  obtain ⟨rfl, rfl, rfl, rfl, rfl, rfl⟩ := hX
  refine ⟨fun pins s v u I rx ry => ?_⟩
  cases (show u = Value.ref a from ry)
  obtain ⟨_, _, J⟩ := ins_inst I ea
  obtain ⟨mm, hF⟩ := I.fr
  obtain ⟨f, fd, ps, dvs, ds, sp0, F, hm, hb, hd, im⟩ := cm.ex
  refine PySem.W.in_K hF I.ok.mod.kin J hm.at_ hm.fn ?_
  refine thn (zrun (us := [.ref a, v]) (vs := [.ref a, y]) F (hr.mono hk) hb hd I (.cons rfl (.cons rx .nil)) (im _ _ _ _ h)) fun r s' z => ?_
  obtain ⟨z', H', I', rz, b, ez, qz⟩ := z
  subst ez
  cases rz
  exact wpAny_truthy_bool ⟨.bl b, H', I', rfl, qz⟩
/-- a def runs within a built-in function, raising nothing -/
theorem zrun1 {pins : List (Addr × Obj)} {s : Shared} {us : List Value} {vs : List V} {E' : Value → Shared → Prop} (cm : CalM X.prog X.w X.K X.mg X.base k C y0 sp) (hr : Room j X.A) (hk : k + 1 ≤ j) (I : Inv X pins σ H s) (r : Vals vs us) (h : sp vs H Q fun _ _ _ => False) :
    ∃ f, PySem.W.findIn X.K (.ref C) y0 = some (some (.ref f)) ∧ PySem.W.isFn X.K (.ref f) = true ∧ wpAny (model X.prog X.w) X.A.in1 (call (.ref f) us) (EP X pins σ Q) E' s := by
  obtain ⟨f, fd, ps, dvs, ds, sp0, F, hm, hb, hd, im⟩ := cm.ex
  refine ⟨f, hm.at_, hm.fn, ?_⟩
  have rr : Vals (vs ++ dvs) (us ++ ds) := r.append hd
  have hl : (us ++ ds).length = ps.length := by rw [← rr.length]; exact F.len _ _ _ _ (im _ _ _ _ h)
  refine wpAny_call (codeAny_mono (F.run X.A.in1 X.stack s H ⟨us, []⟩ (us ++ ds) (vs ++ dvs) Q _ (hr.mono hk).in1 I.env0.in1 (hb s us I.kIn hl) rr (im _ _ _ _ h)) fun r s' hq => ?_)
  cases r with
  | error e => exact (cxn_no (fun _ _ _ z => z) hq).elim
  | ok fl =>
    cases fl with
    | ret u => exact I.after hq
    | next => exact False.elim hq
    | brk => exact False.elim hq
    | cont => exact False.elim hq
/-- abs(x), x of an own class -/
theorem cw_absO (cm : CalM P w K mg base k C "__abs__" sp) (hr : Room j A) (hk : k + 1 ≤ j) (hX : XIs X P w K mg base A) (ea : H a = some (.ins C dx fs)) (h : sp [.ref a] H Q fun _ _ _ => False) : CallW X (.builtin "abs") [.ref a] H Q := by
  obtain ⟨rfl, rfl, rfl, rfl, rfl, rfl⟩ := hX
  refine ⟨fun pins s σ us I r => ?_⟩
  cases r with
  | cons ru rn =>
    cases rn
    cases ru
    obtain ⟨_, _, J⟩ := ins_inst I ea
    obtain ⟨f, h1, h2, h3⟩ := zrun1 (E' := X.xe) (σ := σ) cm hr hk I (.cons (show RelV (.ref a) (.ref a) from rfl) .nil) h
    refine Calls.call_function_entry kind_abs plain_abs entry_abs (args_abs _) ?_
    unfold Builtin.«abs»
    refine wpAny_bind (m := oneArg "abs" _) (wpAny_pure ?_)
    refine wpAny_bind (m := callSpecial? (.ref a) (Str.ofString "__abs__")) (PySem.W.special_fn I.kIn J h1 (beq_iff_eq.mp h2) (wpAny_mono h3 (fun u s' z => ?_) fun _ _ x => x))
    exact wpAny_pure ⟨_, rfl, z⟩
end
end L2
namespace L2
open PySem PySem.Spec PyProof.Rows
section
variable {X : Cx} {e a b c : Expr} {es : List Expr} {σ : St} {H : Hp} {Q : VK} {pos p kpos : Pos} {kws : List Keyword} {nm : Option Str}
/-- the values of the keywords -/
structure ZK (X : Cx) (kws : List Keyword) (σ : St) (H : Hp) (Q : List V → Hp → Prop) : Prop where
  run : ∀ pos pins s, Inv X pins σ H s → wpAny (model X.prog X.w) X.A (evalAll ((backToKw pos (keywordEach kws X.env)).map (·.2))) (AP X pins σ Q) X.xe s
theorem pk_wk : PK X kws (ZK X kws) := ⟨fun pos pins s σ H Q I h => h.run pos pins s I⟩
theorem zk_nil {Q : List V → Hp → Prop} (q : Q [] H) : ZK X [] σ H Q := ⟨fun pos pins s I => pk_nil.run pos pins s σ H Q I q⟩
theorem zk_cons {Q : List V → Hp → Prop} (h : ZE X e σ H fun x H1 => ZK X kws σ H1 fun xs H2 => Q (x :: xs) H2) : ZK X (⟨nm, e, kpos⟩ :: kws) σ H Q := ⟨fun pos pins s I => (pk_cons pe_we pk_wk).run pos pins s σ H Q I h⟩
/-- a class made with keywords named ks behind n values: g puts them in the order of __init__ -/
structure CalCK (P : Program) (w : World) (K : PySem.W.Frag) (mg : Str → Option Value) (base : Heap) (k : Nat) (x : Str) (C : Addr) (n : Nat) (ks : List Str) (sp : Sp) : Prop where
  ex : ∃ (f : Addr) (fd : FuncData) (ps : List Str) (sp0 : Sp) (g : List Value → List Value → List Value) (gV : List V → List V → List V), L2.Mk K C f ∧ FnOk P w K mg base (L2N.CX P w) k f fd ps sp0 ∧ mg x = some (.ref C) ∧ KBn K fd ps (n + 1) ks g gV ∧ ∀ r vs zs H Q E, sp (r :: (vs ++ zs)) H Q E → vs.length = n → zs.length = ks.length → sp0 (gV (r :: vs) zs) H Q E
theorem mrunK {k n : Nat} {C f : Addr} {fd : FuncData} {ps ks : List Str} {sp : Sp} {g : List Value → List Value → List Value} {gV : List V → List V → List V} {pins : List (Addr × Obj)} {s : Shared} {us ws : List Value} {vs zs : List V} (M : L2.Mk X.K C f) (F : FnOk X.prog X.w X.K X.mg X.base (L2N.CX X.prog X.w) k f fd ps sp) (hr : Room (k + 1) X.A) (hb : KBn X.K fd ps (n + 1) ks g gV)
    (I : Inv X pins σ H s) (r : Vals vs us) (rz : Vals zs ws) (l1 : vs.length = n) (l2 : zs.length = ks.length) (h : ∀ a dx, NoA H a → NoA H dx → dx ≠ a → sp (gV (.ref a :: vs) zs) (upd (upd H dx (.own a)) a (.ins C dx [])) (fun v H2 => v = .non ∧ Q (.ref a) H2) (fun cls d H' => XW X cls d σ H')) : wpAny (model X.prog X.w) X.A (call (.ref C) us (ks.zip ws)) (EP X pins σ Q) X.xe s := by
  have f1 : NoA H (s.heap.objs.size + 1) := ⟨I.hok.fresh (Nat.le_succ _)⟩
  have f2 : NoA H s.heap.objs.size := ⟨I.hok.fresh (Nat.le_refl _)⟩
  have want := h _ _ f1 f2 (Nat.ne_of_lt (Nat.lt_succ_self _))
  have made := Inv.made (C := C) I
  have r1 : Vals (V.ref (s.heap.objs.size + 1) :: vs) (Value.ref (s.heap.objs.size + 1) :: us) := .cons rfl r
  have r2 := hb.rel r1 rz
  have n1 : (Value.ref (s.heap.objs.size + 1) :: us).length = n + 1 := by rw [List.length_cons, ← r.length, l1]
  have body := F.run _ X.stack _ _ ⟨Value.ref (s.heap.objs.size + 1) :: us, ks.zip ws⟩ (g (Value.ref (s.heap.objs.size + 1) :: us) ws) _ _ _ (hr.make C us (ks.zip ws)) (made.env0.make C us (ks.zip ws)) (hb.to _ (Value.ref (s.heap.objs.size + 1) :: us) ws made.kIn n1 (rz.length.symm.trans l2)) r2 want
  refine wpAny_call (make_map (f := f) I.kIn M.makes M.init (beq_iff_eq.mp M.fn) (codeAny_mono body fun r s' got => ?_))
  cases r with
  | error ev => exact takes_xw ev s' (L2N.XE.of_call made (fun cls d H' w => w) got)
  | ok fl =>
    cases fl with
    | ret u =>
      obtain ⟨v, H', J, rv, ev, q3⟩ := made.after got
      subst ev
      exact ⟨rv, V.ref (s.heap.objs.size + 1), H', J, rfl, q3⟩
    | next => exact got.elim
    | brk => exact got.elim
    | cont => exact got.elim
theorem s_makeK {P : Program} {w : World} {K : PySem.W.Frag} {mg : Str → Option Value} {base : Heap} {A : Around} {x : Str} {C : Addr} {k j n : Nat} {ks : List Str} {sp : Sp} (c : CalCK P w K mg base k x C n ks sp) (hr : Room j A) (hk : k + 1 ≤ j) (hX : XIs X P w K mg base A)
    (h : ZA X (e :: es) σ H fun vs H1 => ZK X kws σ H1 fun zs H2 => vs.length = n ∧ zs.length = ks.length ∧ ∀ a dx, NoA H2 a → NoA H2 dx → dx ≠ a → sp (.ref a :: (vs ++ zs)) (upd (upd H2 dx (.own a)) a (.ins C dx [])) (fun v H3 => v = .non ∧ Q (.ref a) H3) (fun cls d H' => XW X cls d σ H')) (hg : Gl X x)
    (hall : (backToKw pos (keywordEach kws X.env)).all (·.1.isSome) = true) (hks : (backToKw pos (keywordEach kws X.env)).filterMap (·.1) = ks) (hdb : (x == ("__debug__" : Str)) = false)
    (he : starEach (e :: es) X.env = (false, eval e X.env) :: starEach es X.env) (hpl : ((backTo pos (starEach (e :: es) X.env)).any (·.1) || (backToKw pos (keywordEach kws X.env)).any (·.1.isNone)) = false) : ZE X (.Call (.Name x p) (e :: es) kws pos) σ H Q := by
  obtain ⟨rfl, rfl, rfl, rfl, rfl, rfl⟩ := hX
  obtain ⟨f, fd, ps, sp0, g, gV, M, F, gm, hb, im⟩ := c.ex
  refine ⟨fun pins s I => ?_⟩
  refine wpAny_Call_Name_kw (ld_glob I hg gm ?_ hdb)
  refine PySem.W.callWith_KW (h₀ := X.base) I.ok.mod.kin M.kp hall (thn (h.run pos pins s I) fun us s1 ⟨vs, H1, I1, r, q⟩ => ?_) hpl he
  refine thn (q.run pos pins s1 I1) fun ws s2 ⟨zs, H2, I2, rz, l1, l2, q2⟩ => ⟨I2.kIn, ?_⟩
  rw [hks]
  exact mrunK M F (hr.mono hk) hb I2 r rz l1 l2 fun a dx n1 n2 ne => im _ _ _ _ _ _ (q2 a dx n1 n2 ne) l1 l2
/-- a constant of a class, read off the class -/
theorem aw_cval {C : Addr} {mc : Value} {f : Str} {v : V} {u : Value} (r : ClX.CRead X.K C mc) (k : ClX.CVal X.K C mc f v u) (q : Q v H) : AtW X f (.ref C) H Q := by
  refine ⟨fun pins s σ w I rx => ?_⟩
  obtain rfl : w = Value.ref C := rx
  exact ClX.getcval_ok I r k fun s2 I2 => ⟨v, H, I2, k.rel, q⟩
end
end L2

/-! == and != with an instance of an own class on either side. -/
namespace L2
open PySem PySem.Spec PyProof.Rows
theorem looks_bind {M : Model} {h : Heap} {α β : Type} {m : Sem α} {f : α → Sem β} {a : α} {b : β} (h1 : PySem.W.Looks M h m a) (h2 : PySem.W.Looks M h (f a) b) : PySem.W.Looks M h (m >>= f) b :=
  fun A Q E s k q => wpAny_bind (h1 A _ E s k (h2 A Q E s k q))
theorem inst_own {M : Model} {h : Heap} {K : PySem.W.Frag} {x C : Addr} {ox : Obj} {od : Option Obj} {b : Value} {r : Bool} (kin : K.In h) (J : PySem.W.InstAt h x ox C od) (hs : PySem.W.subIn K (.ref C) b = some r) : PySem.W.Looks M h (PySem.isInstance (.ref x) b) r := by
  unfold PySem.isInstance
  exact looks_bind J.type (PySem.W.looks_subIn kin hs)
/-- the rich comparison by its two tries -/
theorem rich_of {M : Model} {A : Around} {E : Value → Shared → Prop} {s : Shared} {a b ta tb : Value} {op : CmpOp} {Q : Value → Shared → Prop} (hu : A.units < cLine) (ho : oneThing? op a b = none) (hta : PySem.W.Looks M s.heap (typeOf a) ta) (htb : PySem.W.Looks M s.heap (typeOf b) tb) (hsub : ta = tb ∨ PySem.W.Looks M s.heap (isSubtype tb ta) false)
    (h : wpAny M A (tryCompare a (cmpInfo op).2.1 b) (fun o s1 => match o with | some v => Q v s1 | none => wpAny M A (tryCompare b (cmpInfo op).2.2 a) (fun o s2 => ∃ v, o = some v ∧ Q v s2) E s1) E s) : wpAny M A (richCompare op a b) Q E s := by
  unfold richCompare
  refine wpAny_holding (wpAny_bind (wpAny_cRoomFor hu ?_))
  rw [ho]
  refine wpAny_bind (hta A _ E s (fun _ _ z => z) ?_)
  refine wpAny_bind (htb A _ E s (fun _ _ z => z) ?_)
  have fin : ∀ (m : Sem Value) (f : Option Value → Sem Value) (rest : Sem Value), wpAny M A m Q E s → wpAny M A m Q E s := fun m f rest h => h
  have step : ∀ {o : Option Value} {s1 : Shared} {rest : Sem Value}, (match o with | some v => Q v s1 | none => wpAny M A (tryCompare b (cmpInfo op).2.2 a) (fun o s2 => ∃ v, o = some v ∧ Q v s2) E s1) →
      wpAny M A (match o with | some v => pure v | x => (if (!false) = true then (tryCompare b (cmpInfo op).2.2 a >>= fun o => match o with | some v => pure v | x => rest) else rest)) Q E s1 := by
    intro o s1 rest q
    cases o with
    | some v => exact wpAny_pure q
    | none =>
      refine wpAny_bind (wpAny_mono q (fun o s2 q => ?_) fun _ _ z => z)
      obtain ⟨v, rfl, q⟩ := q
      exact wpAny_pure q
  dsimp only
  split
  · rename_i hne
    refine wpAny_bind ?_
    rcases hsub with rfl | hsub
    · simp at hne
    · refine hsub A _ E s (fun _ _ z => z) ?_
      rw [if_neg Bool.false_ne_true]
      exact wpAny_bind (wpAny_mono h (fun o s1 q => step q) fun _ _ z => z)
  · refine wpAny_bind (wpAny_pure ?_)
    rw [if_neg Bool.false_ne_true]
    exact wpAny_bind (wpAny_mono h (fun o s1 q => step q) fun _ _ z => z)

theorem ifBound_slotO {M : Model} {A : Around} {E : Value → Shared → Prop} {s : Shared} {K : PySem.W.Frag} {x C : Addr} {ox : Obj} {od : Option Obj} {name : Str} {id : String} {args : List Value} {Q : Option Value → Shared → Prop} (kin : K.In s.heap) (J : PySem.W.InstAt s.heap x ox C od) (hf : PySem.W.findIn K (.ref C) name = some (some (.builtin id))) (hb : ∀ self, bindSpecial (.builtin id) self = pure (.builtin id, [self]))
    (h : wpAny M A (call (.builtin id) (.ref x :: args)) (fun v => Q (some v)) E s) : wpAny M A (callSpecialIfBound? (.ref x) name args) Q E s := by
  have fin : wpAny M A (do let r ← call (.builtin id) ([.ref x] ++ args); pure (some r)) Q E s := wpAny_bind (wpAny_mono h (fun v s1 q => wpAny_pure q) fun _ _ z => z)
  unfold callSpecialIfBound? bindSpecialIfBound? specialOf
  refine wpAny_holding (wpAny_bind (wpAny_bind (wpAny_bind (J.type A _ E s (fun _ _ z => z) (PySem.W.looks_findIn kin hf A _ E s (fun _ _ z => z) ?_)))))
  dsimp only
  rw [hb]
  refine wpAny_bind (wpAny_askSetting ?_)
  dsimp only
  split
  · exact wpAny_bind (wpAny_pure (wpAny_pure fin))
  · exact wpAny_tryCatch (wpAny_bind (wpAny_pure (wpAny_pure fin)))
theorem call_slotB {prog : Program} {w : World} {A : Around} {E : Value → Shared → Prop} {s : Shared} {id : String} {b : Builtin} {args : List Value} {Q : Value → Shared → Prop} (hp : plainId id = true) (he : entryFor table id = some b) (hc : ∀ Q' E', Q' () s → wpAny (model prog w) A.in1 (checkBuiltinCall id ⟨args, []⟩) Q' E' s)
    (h : wpAny (model prog w) A.in1 (b ⟨args, []⟩) (fun fin s' => ∃ v, fin = .done (.ret v) ∧ Q v s') E s) : wpAny (model prog w) A (call (.builtin id) args) Q E s := by
  refine wpAny_call (codeAny_call_builtin hp he (hc _ _ (wpAny_mono h (fun fin s' q => ?_) fun _ _ z => z)))
  obtain ⟨v, rfl, q⟩ := q
  exact q
/-- x != v by an own __eq__ that gives a bool -/
theorem try_neO {prog : Program} {w : World} {A : Around} {E : Value → Shared → Prop} {s : Shared} {K : PySem.W.Frag} {x C f : Addr} {ox : Obj} {od : Option Obj} {v : Value} {Q : Option Value → Shared → Prop} (hu : A.in1.units < cLine) (kin : K.In s.heap) (J : PySem.W.InstAt s.heap x ox C od) (hn : PySem.W.findIn K (.ref C) "__ne__" = some (some (.builtin "object.__ne__"))) (hm : PySem.W.mroIn K C (.type "object") = some true)
    (hf : PySem.W.findIn K (.ref C) "__eq__" = some (some (.ref f))) (hF : PySem.W.isFn K (.ref f) = true) (h : wpAny (model prog w) A.in1 (call (.ref f) [.ref x, v]) (fun r s' => ∃ b, r = .bool b ∧ Q (some (.bool (!b))) s') E s) : wpAny (model prog w) A (tryCompare (.ref x) "__ne__" v) Q E s := by
  unfold tryCompare
  refine wpAny_bind (ifBound_slotO (id := "object.__ne__") kin J hn PySem.F.slot_object_ne.bind ?_)
  refine call_slotB (by decide +kernel) PySem.F.entry_object_ne (fun Q' E' q => PySem.W.check_slot (owner := "object") (n := "__ne__") (by decide +kernel) (by decide +kernel) (inst_own kin J hm) (PySem.F.args_object_ne_2 _ _) q) ?_
  unfold Builtin.«object.__ne__»
  refine wpAny_bind (wpAny_pure ?_)
  dsimp only
  refine wpAny_bind (wpAny_cRoomFor hu (wpAny_bind (PySem.W.ifBound_K kin J hf hF (wpAny_mono h (fun r s' q => ?_) fun _ _ z => z))))
  obtain ⟨b, rfl, q⟩ := q
  exact wpAny_bind (wpAny_truthy_bool (wpAny_pure ⟨_, rfl, wpAny_pure q⟩))

/-! a value of a built-in type beside an instance -/
theorem sub_type {K : PySem.W.Frag} {C : Addr} {T : String} (h : T = "int" ∨ T = "bool" ∨ T = "str" ∨ T = "list" ∨ T = "tuple" ∨ T = "NoneType") : PySem.W.subIn K (.type T) (.ref C) = some false := by
  rcases h with rfl | rfl | rfl | rfl | rfl | rfl <;> rfl
/-- what the written part says of an own class beside the built-in types -/
structure NotB (K : PySem.W.Frag) (C : Addr) : Prop where
  no : ∀ T, (T = "int" ∨ T = "bool" ∨ T = "str" ∨ T = "list" ∨ T = "tuple" ∨ T = "NoneType") → PySem.W.mroIn K C (.type T) = some false
theorem NotB.of {K : PySem.W.Frag} {C : Addr} (h1 : PySem.W.mroIn K C (.type "int") = some false) (h2 : PySem.W.mroIn K C (.type "bool") = some false) (h3 : PySem.W.mroIn K C (.type "str") = some false) (h4 : PySem.W.mroIn K C (.type "list") = some false) (h5 : PySem.W.mroIn K C (.type "tuple") = some false) (h6 : PySem.W.mroIn K C (.type "NoneType") = some false) : NotB K C :=
  ⟨fun T h => by rcases h with rfl | rfl | rfl | rfl | rfl | rfl <;> assumption⟩
theorem looks_is {M : Model} {s : Shared} {v : Value} {T : String} (h : s.TypeIs v T) : PySem.W.Looks M s.heap (typeOf v) (.type T) := by
  unfold Shared.TypeIs at h
  split at h
  · obtain ⟨o, h1, h2⟩ := h
    rename_i a
    have : PySem.W.Looks M s.heap (typeOf (.ref a)) o.cls := by
      unfold typeOf
      exact looks_bind (PySem.W.Looks.ld h1) PySem.W.Looks.now
    rwa [h2] at this
  · exact PySem.W.Looks.of_pure h
/-- T's == declines an instance of an own class -/
theorem eq_dec {prog : Program} {w : World} {A : Around} {E : Value → Shared → Prop} {s : Shared} {K : PySem.W.Frag} {y C : Addr} {oy : Obj} {od : Option Obj} {X : Cx} {pins : List (Addr × Obj)} {σ : St} {H : Hp} {x : V} {v : Value} {T : String} {Q : Option Value → Shared → Prop} (I : Inv X pins σ H s) (r : RelV x v) (b : TyB X.K H x T) (hT : T = "int" ∨ T = "bool" ∨ T = "str" ∨ T = "list" ∨ T = "tuple" ∨ T = "NoneType")
    (kin : K.In s.heap) (J : PySem.W.InstAt s.heap y oy C od) (N : NotB K C) (hd : ∀ p, oy.data ≠ .prim p) (q : ∀ s', Inv X pins σ H s' → Q none s') : wpAny (model prog w) A (tryCompare v "__eq__" (.ref y)) Q E s := by
  have ti := b.is I r
  have key : ∀ {id : String} {B : Builtin}, Slot T "__eq__" id → entryFor table id = some B → argsOk id ⟨[v, .ref y], []⟩ → wpAny (model prog w) A.in1 (B ⟨[v, .ref y], []⟩) (fun fin s' => fin = .done (.ret .notImplemented) ∧ Inv X pins σ H s') E s → wpAny (model prog w) A (tryCompare v "__eq__" (.ref y)) Q E s := fun sl en ao h =>
    wpAny_tryCompare_declines ti sl (call_slotB sl.plain en (fun Q' E' q => sl.check _ _ _ _ _ _ _ _ ti ao q) (wpAny_mono h (fun fin s' ⟨e, I'⟩ => ⟨_, e, rfl, q s' I'⟩) fun _ _ z => z))
  cases b with
  | non =>
    obtain rfl : v = .none := r
    refine key PySem.F.slot_NoneType_eq PySem.F.entry_NoneType_eq (PySem.F.args_NoneType_eq_2 _ _) ?_
    unfold Builtin.«NoneType.__eq__»
    exact wpAny_bind (wpAny_pure (wpAny_pure ⟨rfl, I⟩))
  | bl c =>
    obtain rfl : v = .bool c := r
    refine key PySem.F.slot_bool_eq PySem.F.entry_int_eq (PySem.F.args_int_eq_2 _ _) ?_
    show wpAny _ _ (Builtin.Int.intBinary "__eq__" (fun x y => ret (.bool (x == y))) false ⟨[.bool c, .ref y], []⟩) _ _ _
    unfold Builtin.Int.intBinary
    refine wpAny_bind (wpAny_pure (wpAny_bind (wpAny_bind (wpAny_pure (wpAny_pure (wpAny_bind (wpAny_bind (wpAny_load J.at_ ?_))))))))
    split
    · rename_i h; exact absurd h (hd _)
    · exact wpAny_pure (wpAny_bind (wpAny_rule (wpAny_pure ⟨rfl, I⟩)))
  | int c =>
    obtain ⟨t, rfl⟩ := r
    refine key PySem.F.slot_int_eq PySem.F.entry_int_eq (PySem.F.args_int_eq_2 _ _) ?_
    show wpAny _ _ (Builtin.Int.intBinary "__eq__" (fun x y => ret (.bool (x == y))) false ⟨[.int c t, .ref y], []⟩) _ _ _
    unfold Builtin.Int.intBinary
    refine wpAny_bind (wpAny_pure (wpAny_bind (wpAny_bind (wpAny_pure (wpAny_pure (wpAny_bind (wpAny_bind (wpAny_load J.at_ ?_))))))))
    split
    · rename_i h; exact absurd h (hd _)
    · exact wpAny_pure (wpAny_bind (wpAny_rule (wpAny_pure ⟨rfl, I⟩)))
  | str c =>
    obtain ⟨t, rfl⟩ := r
    refine key PySem.F.slot_str_eq PySem.F.entry_str_eq (PySem.F.args_str_eq_2 _ _) ?_
    show wpAny _ _ (Builtin.Str.strCompare "__eq__" (fun x y => x == y) ⟨[.str c t, .ref y], []⟩) _ _ _
    unfold Builtin.Str.strCompare
    refine wpAny_bind (wpAny_bind (wpAny_pure (wpAny_bind (wpAny_bind (wpAny_pure (wpAny_pure (wpAny_pure (wpAny_bind (wpAny_bind (wpAny_load J.at_ ?_))))))))))
    split
    · rename_i h; exact absurd h (hd _)
    · exact wpAny_pure (wpAny_bind (wpAny_rule (wpAny_pure ⟨rfl, I⟩)))
  | byt c => simp at hT
  | lst h =>
    obtain rfl : v = .ref _ := r
    refine key PySem.F.slot_list_eq PySem.F.entry_list_eq (PySem.F.args_list_eq_2 _ _) ?_
    unfold Builtin.«list.__eq__»
    refine wpAny_bind (m := slotArgs "__eq__" 1 _) (wpAny_pure (wpAny_bind (m := PySem.isInstance _ _) (inst_own kin J (N.no "list" hT) _ _ _ _ (fun _ _ z => z) ?_)))
    exact wpAny_pure ⟨rfl, I⟩
  | tup h =>
    obtain rfl : v = .ref _ := r
    refine key PySem.F.slot_tuple_eq PySem.F.entry_tuple_eq (PySem.F.args_tuple_eq_2 _ _) ?_
    unfold Builtin.«tuple.__eq__»
    refine wpAny_bind (m := slotArgs "__eq__" 1 _) (wpAny_pure (wpAny_bind (m := PySem.isInstance _ _) (inst_own kin J (N.no "tuple" hT) _ _ _ _ (fun _ _ z => z) ?_)))
    exact wpAny_pure ⟨rfl, I⟩
  | dK h => simp at hT

section
variable {X : Cx} {P : Program} {w : World} {K : PySem.W.Frag} {mg : Str → Option Value} {base : Heap} {A : Around} {σ : St} {H : Hp} {Q : VK} {a b C C' dx dy : Addr} {fs gs : List (Str × V)} {k j : Nat} {sp : Sp} {y : V} {T : String}
abbrev BT6 (T : String) : Prop := T = "int" ∨ T = "bool" ∨ T = "str" ∨ T = "list" ∨ T = "tuple" ∨ T = "NoneType"
theorem ins_data {pins : List (Addr × Obj)} {s : Shared} (I : Inv X pins σ H s) (ea : H a = some (.ins C dx fs)) : ∃ o od, PySem.W.InstAt s.heap a o C od ∧ ∀ p, o.data ≠ .prim p := by
  obtain ⟨mA, O, _⟩ := ins_get I.hok ea
  obtain ⟨od, J, _⟩ := O.look
  exact ⟨_, _, J, fun p z => by cases z⟩
/-- x == y, x of an own class, y of a built-in type -/
theorem ow_eqB (cm : CalM P w K mg base k C "__eq__" sp) (hT : BT6 T) (hr : Room j A) (hk : k ≤ j) (hX : XIs X P w K mg base A) (ea : H a = some (.ins C dx fs)) (b : TyB K H y T)
    (h : sp [.ref a, y] H Q fun cls d H' => XW X cls d σ H') : OpW X σ (compareOp .Eq) (.ref a) y H Q := by
  obtain ⟨rfl, rfl, rfl, rfl, rfl, rfl⟩ := hX
  refine ⟨fun pins s v u I rx ry => ?_⟩
  cases (show v = Value.ref a from rx)
  obtain ⟨_, _, J⟩ := ins_inst I ea
  obtain ⟨mm, hF⟩ := I.fr
  obtain ⟨f, h1, h2, h3⟩ := own_run (a := a) (y := y) (v := u) cm hr hk I ry h
  exact PySem.W.cmp_ofEq (PySem.W.cmp_K (op := .Eq) (tb := .type T) hr.units0 hF I.ok.mod.kin J (looks_is (b.is I ry)) (by unfold PySem.W.notFirst; rw [sub_type hT]; simp) h1 h2 h3)
/-- y == x, x of an own class, y of a built-in type -/
theorem ow_Beq (cm : CalM P w K mg base k C "__eq__" sp) (N : NotB K C) (hT : BT6 T) (hr : Room j A) (hk : k ≤ j) (hX : XIs X P w K mg base A) (ea : H a = some (.ins C dx fs)) (b : TyB K H y T)
    (h : sp [.ref a, y] H Q fun cls d H' => XW X cls d σ H') : OpW X σ (compareOp .Eq) y (.ref a) H Q := by
  obtain ⟨rfl, rfl, rfl, rfl, rfl, rfl⟩ := hX
  refine ⟨fun pins s v u I rx ry => ?_⟩
  cases (show u = Value.ref a from ry)
  obtain ⟨_, _, J, hd⟩ := ins_data I ea
  have ti := b.is I rx
  refine PySem.W.cmp_ofEq (rich_of hr.units0 (ti.oneThing_none _ _) (looks_is ti) J.type (.inr (PySem.W.looks_subIn I.kIn (N.no T hT))) (eq_dec I rx b hT I.kIn J N hd fun s' I' => ?_))
  obtain ⟨_, _, J'⟩ := ins_inst I' ea
  obtain ⟨f, h1, h2, h3⟩ := own_run (a := a) (y := y) (v := v) cm hr hk I' rx h
  show wpAny _ _ (tryCompare (.ref a) "__eq__" v) _ _ _
  unfold tryCompare
  refine wpAny_bind (PySem.W.ifBound_K I'.kIn J' h1 h2 (wpAny_mono h3 (fun r s2 q => ?_) fun _ _ z => z))
  cases r <;> first | exact q.elim | exact wpAny_pure ⟨_, rfl, q⟩
/-- x != y, x of an own class -/
theorem ow_neO (cm : CalM P w K mg base k C "__eq__" sp) (hn : PySem.W.findIn K (.ref C) "__ne__" = some (some (.builtin "object.__ne__"))) (hm : PySem.W.mroIn K C (.type "object") = some true) (hr : Room j A) (hk : k + 1 ≤ j) (hX : XIs X P w K mg base A) (ea : H a = some (.ins C dx fs))
    (ht : (∃ T, BT6 T ∧ TyB K H y T) ∨ (∃ b C' dy gs, y = .ref b ∧ H b = some (.ins C' dy gs) ∧ PySem.W.notFirst K C (.ref C') = true))
    (h : sp [.ref a, y] H (fun v H' => ∃ c, v = .bl c ∧ Q (.bl (!c)) H') fun _ _ _ => False) : OpW X σ (compareOp .NotEq) (.ref a) y H Q := by
  obtain ⟨rfl, rfl, rfl, rfl, rfl, rfl⟩ := hX
  refine ⟨fun pins s v u I rx ry => ?_⟩
  cases (show v = Value.ref a from rx)
  obtain ⟨_, _, J⟩ := ins_inst I ea
  obtain ⟨f, h1, h2, h3⟩ := zrun1 (E' := X.xe) (σ := σ) cm hr hk I (.cons (show RelV (.ref a) (.ref a) from rfl) (.cons ry .nil)) h
  obtain ⟨tb, htb, hsub⟩ : ∃ tb, PySem.W.Looks (model X.prog X.w) s.heap (typeOf u) tb ∧ (Value.ref C = tb ∨ PySem.W.Looks (model X.prog X.w) s.heap (isSubtype tb (.ref C)) false) := by
    rcases ht with ⟨T, hT, b⟩ | ⟨b, C', dy, gs, rfl, eb, nf⟩
    · exact ⟨_, looks_is (b.is I ry), .inr (PySem.W.looks_subIn I.kIn (sub_type hT))⟩
    · cases (show u = Value.ref b from ry)
      obtain ⟨_, _, J'⟩ := ins_inst I eb
      refine ⟨_, J'.type, ?_⟩
      unfold PySem.W.notFirst at nf
      rw [Bool.or_eq_true] at nf
      rcases nf with nf | nf
      · exact .inl (by simpa using (show (C' = C) by simpa using nf.symm).symm)
      · exact .inr (PySem.W.looks_subIn I.kIn (by simpa using nf))
  refine PySem.W.cmp_ofNotEq (rich_of hr.units0 (oneThing_ref _ _ _) J.type htb hsub (try_neO (by have := hr.un; show X.A.units + 1 < cLine; omega) I.kIn J hn hm h1 h2 (wpAny_mono h3 (fun r s2 q => ?_) fun _ _ z => z)))
  obtain ⟨z, H', I', rz, c, rfl, q⟩ := q
  exact ⟨c, rz, .bl (!c), H', I', rfl, q⟩
end
end L2

/-! Classmethods; a class held by a local name. -/
namespace L2
open PySem PySem.Spec PyProof.Rows
/-- a classmethod of an own class, with its promise -/
structure CalS (P : Program) (w : World) (K : PySem.W.Frag) (mg : Str → Option Value) (base : Heap) (k : Nat) (C : Addr) (m : Str) (sp : Sp) : Prop where
  ex : ∃ (mc : Value) (p g : Addr) (fd : FuncData) (ps : List Str), ClX.CRead K C mc ∧ ClX.CMet K C mc m p g ∧ FnOk P w K mg base (L2N.CX P w) k g fd ps sp ∧ Binds K fd ps []
section
variable {X : Cx} {P : Program} {w : World} {K : PySem.W.Frag} {mg : Str → Option Value} {base : Heap} {A : Around} {σ : St} {H : Hp} {Q : VK} {C : Addr} {m : Str} {k j : Nat} {sp : Sp} {e o : Expr} {es : List Expr} {pos apos p : Pos}
theorem s_cmeth {pl : Sem Bool} (c : CalS P w K mg base k C m sp) (hr : Room j A) (hk : k ≤ j) (hX : XIs X P w K mg base A) (h : ZE X o σ H fun x H1 => x = .ref C ∧ ZA X (e :: es) σ H1 fun vs H2 => sp (.ref C :: vs) H2 Q fun cls d H' => XW X cls d σ H')
    (hst : starEach (e :: es) X.env = (false, eval e X.env) :: starEach es X.env) (hpl : (backTo pos (starEach es X.env)).any (·.1) = false)
    (ht : eval (.Call (.Attribute o m apos) (e :: es) [] pos) X.env = (do
      let ov ← eval o X.env
      standAt apos.atName
      let (f, first) ← holding [ov] (getMethod ov m pl)
      callWith pos f first (backTo pos (starEach (e :: es) X.env)) (backToKw pos (keywordEach [] X.env)))) : ZE X (.Call (.Attribute o m apos) (e :: es) [] pos) σ H Q := by
  obtain ⟨rfl, rfl, rfl, rfl, rfl, rfl⟩ := hX
  obtain ⟨mc, pm, g, fd, ps, rd, cm, F, hb⟩ := c.ex
  refine ⟨fun pins s I => ?_⟩
  refine PySem.W.methodCall_KW (pl := pl) (thn (h.run pins s I) fun u s1 ⟨x, H1, I1, rx, ex, q⟩ => ?_) ht
  subst ex
  obtain rfl : u = Value.ref C := rx
  refine ClX.getmethcm_ok I1 rd cm fun s2 I2 => ?_
  refine ClX.callwith_cm I2 (ClX.base_none I1 (Nat.le_refl _)) cm.fi (thn (q.run pos _ s2 I2) fun us s3 ⟨vs, H2, I3, r, q2⟩ => ⟨⟨ClX.pin_at I3, I3.kIn⟩, ?_⟩) hst hpl
  have rr : Vals (V.ref C :: vs) (Value.ref C :: us) := .cons rfl r
  have hl : (Value.ref C :: us).length = ps.length := by rw [← rr.length]; exact F.len _ _ _ _ q2
  have I3' := ClX.unpin I3
  refine wpAny_call (ks_codeAny_call_bound (ClX.pin_at I3) ?_)
  refine codeAny_mono (F.run X.A X.stack s3 H2 ⟨Value.ref C :: us, []⟩ (Value.ref C :: us) (V.ref C :: vs) Q _ (hr.mono hk) I3'.env0 (by have := hb s3 (Value.ref C :: us) I3'.kIn (by rw [List.append_nil]; exact hl); rwa [List.append_nil] at this) rr q2) fun r s' hq => ?_
  cases r with
  | error e => exact takes_xw e s' (L2N.XE.of_call I3' (fun cls d H' w => w) hq)
  | ok fl =>
    cases fl with
    | ret u => exact I3'.after hq
    | next => exact False.elim hq
    | brk => exact False.elim hq
    | cont => exact False.elim hq
/-- x(..), x a local name that holds an own class -/
theorem s_makeL {N : List Str} {M : Nat} {sc : Scope} {x y : Str} {i : Nat} (S : NOk N M sc) (at_ : At N σ x i (.ref C)) (hi : i < M) (hN : X.N = N ∧ X.env.scope = sc) (c : CalC P w K mg base k y C sp) (hr : Room j A) (hk : k + 1 ≤ j) (hX : XIs X P w K mg base A)
    (h : ZA X (e :: es) σ H fun vs H1 => ∀ a dx, NoA H1 a → NoA H1 dx → dx ≠ a → sp (.ref a :: vs) (upd (upd H1 dx (.own a)) a (.ins C dx [])) (fun v H2 => v = .non ∧ Q (.ref a) H2) (fun cls d H' => XW X cls d σ H'))
    (he : starEach (e :: es) X.env = (false, eval e X.env) :: starEach es X.env) (hpl : (backTo pos (starEach es X.env)).any (·.1) = false) : ZE X (.Call (.Name x p) (e :: es) [] pos) σ H Q := by
  obtain ⟨rfl, rfl, rfl, rfl, rfl, rfl⟩ := hX
  obtain ⟨f, fd, ps, sp0, M, F, gm, im⟩ := c.ex
  refine ⟨fun pins s I => ?_⟩
  refine wpAny_Call_Name_kw (thn ((s_name (pos := p) (H := H) (Q := fun v H' => v = .ref C ∧ H' = H) S at_ hi hN ⟨rfl, rfl⟩).run pins s I) fun u s1 ⟨v, H1, I1, rv, ev, eh⟩ => ?_)
  subst ev
  subst eh
  obtain rfl : u = Value.ref C := rv
  refine PySem.W.callWith_K (h₀ := X.base) I1.ok.mod.kin M.kp (thn (h.run pos pins s1 I1) fun us s2 ⟨vs, H2, I2, r, q⟩ => ⟨I2.kIn, ?_⟩) he hpl
  exact mrun M F (hr.mono hk) I2 r fun a dx n1 n2 ne => im (.ref a :: vs) _ _ _ (q a dx n1 n2 ne)
end
/-- a statement by its own end -/
theorem zs_cut {X : Cx} {st : Stmt} {nx bk ct : NX} {rt : VK} {σ : St} {H : Hp} (Iv : St → Hp → Prop) (h1 : ∀ nx' : NX, (∀ σ1 H1, Iv σ1 H1 → nx' σ1 H1) → ZS X st nx' rt bk ct σ H) (h2 : ∀ σ1 H1, Iv σ1 H1 → nx σ1 H1) : ZS X st nx rt bk ct σ H := h1 _ h2
end L2

/-! Defs called within an except suite with the exception that is handled. -/
namespace L2
open PySem PySem.Spec PyProof.Rows
section
variable {X : Cx} {a : Addr} {oe : Obj} {cls : Value} {d : Option Addr} {H : Hp} {Q : VK} {σ : St}
theorem inst_pin {C : Addr} {pins : List (Addr × Obj)} {s : Shared} (hp : (a, oe) ∈ X.pn) (hz : L2N.Zn cls d oe) (hf : ∃ vs, oe.data = .fields vs) (I : Inv X pins σ H s) (hc : cls = .ref C) (hd : DOk H d) : ∃ od, PySem.W.InstAt s.heap a oe C od := by
  obtain ⟨hget, _⟩ := I.pin (a, oe) (List.mem_append.mpr (.inl hp))
  obtain ⟨vs, hv⟩ := hf
  subst hc
  rcases hd with rfl | ⟨dd, fs, rfl, hx⟩
  · exact ⟨none, hget, hz.1, by unfold PySem.W.notCls; rw [hv] <;> rfl, by rw [hz.2.1]; trivial⟩
  · have hx' : ObjOk X.prog X.w H s.heap dd (.xd fs) := I.hok dd _ hx
    obtain ⟨mA, hns, hr⟩ := hx'
    obtain ⟨od, ho, hl⟩ := lookIn_ns hns
    exact ⟨some od, hget, hz.1, by unfold PySem.W.notCls; rw [hv] <;> rfl, by rw [hz.2.1]; exact ho⟩
theorem cw_isp {D : Addr} {c : V} {cv : Value} {b : Bool} (hp : (a, oe) ∈ X.pn) (hz : L2N.Zn cls d oe) (hf : ∃ vs, oe.data = .fields vs) (hc : cls = .ref D) (T : PySem.LX.ExcT X.K D) (hd : DOk H d) (hv : ClsV c cv) (hk : PySem.W.kitOne X.K (.ref D) cv = some b) (q : Q (.bl b) H) :
    CallW X (.builtin "isinstance") [.ref a, c] H Q := by
  refine ⟨fun pins s σ us I r => ?_⟩
  cases r with
  | cons rx rr =>
    cases rr with
    | cons rt rr =>
      cases rr
      cases rx
      have ec := hv.eq rt
      subst ec
      exact PySem.W.kia_one (PySem.W.kitx_excD (ox := oe) T) I.kIn (inst_pin hp hz hf I hc hd) hk (fun z => nomatch z) fun tk => ⟨.bl b, H, I.kept (t' := tk) fun _ _ z => z, rfl, q⟩
theorem aw_xp {C dd : Addr} {fs : List (Str × V)} {v : V} {n : Str} (hp : (a, oe) ∈ X.pn) (hz : L2N.Zn cls d oe) (hf : ∃ vs, oe.data = .fields vs) (hc : cls = .ref C) (hd : d = some dd) (T : PySem.LX.ExcT X.K C) (hno : PySem.W.findIn X.K (.ref C) n = some none) (ea : H dd = some (.xd fs)) (l : fs.lookup n = some v) (q : Q v H) :
    AtW X n (.ref a) H Q := by
  refine ⟨fun pins s1 σ u I1 rx => ?_⟩
  obtain rfl : u = Value.ref a := rx
  subst hc
  subst hd
  obtain ⟨ha, _⟩ := I1.pin (a, oe) (List.mem_append_left _ hp)
  obtain ⟨vs, hdt⟩ := hf
  have hx : ObjOk X.prog X.w H s1.heap dd (.xd fs) := I1.hok dd _ ea
  obtain ⟨mA, hns, hr⟩ := hx
  obtain ⟨od, ho, hl⟩ := lookIn_ns hns
  obtain ⟨u, hu, ru⟩ := RelO.some_of (v := v) (o := mA n) (by rw [← l]; exact hr n)
  have J : PySem.W.InstAt s1.heap a oe C (some od) := ⟨ha, hz.1, by unfold PySem.W.notCls; rw [hdt] <;> rfl, by rw [hz.2.1]; exact ho⟩
  exact HandSPX.exc_get I1.kIn J T.ga T.gg T.ox.exC (PySem.W.findObj_own T.hd hno rfl (by rw [hl, hu])) (handed_of ru) ⟨v, H, I1.tok _, ru, q⟩
end
/-- a def's promise by the class and the dict of the exception that is handled, and its address -/
abbrev SpX := Value → Option Addr → Addr → Sp
/-- a def run while p's exception is handled -/
def RunX (P : Program) (w : World) (K : PySem.W.Frag) (mg : Str → Option Value) (base : Heap) (k : Nat) (f : Addr) (fd : FuncData) (ps : List Str) (sp : SpX) : Prop :=
  ∀ (A : Around) (outer : List Env) (s : Shared) (H : Hp) (us : List Value) (vs : List V) (Q : VK) (E : XK) (p : Addr × Obj) (cls : Value) (d : Option Addr), L2H.RoomH k A → L2H.Hot1 A p → L2N.Zn cls d p.2 → L2H.PinOk outer H s p → Env0 P w K mg base A outer s H → us.length = ps.length → BindsTo s fd ⟨us, []⟩ (ps.zip us) → Vals vs us → sp cls d p.1 vs H Q E →
    codeAny (model P w) A (Code.call (.ref f) ⟨us, []⟩) (CR (L2N.CX P w) outer P w H s Q E) s
structure CalX (P : Program) (w : World) (K : PySem.W.Frag) (mg : Str → Option Value) (base : Heap) (k : Nat) (x : Str) (sp : SpX) : Prop where
  ex : ∃ (f : Addr) (fd : FuncData) (ps : List Str), RunX P w K mg base k f fd ps sp ∧ mg x = some (.ref f) ∧ PySem.W.keepIn K (.ref f) = true ∧ Binds K fd ps [] ∧ ∀ cls d a vs H Q E, sp cls d a vs H Q E → vs.length = ps.length
theorem FunX.run {P : Program} {w : World} {K : PySem.W.Frag} {mg : Str → Option Value} {base : Heap} {x qual : Str} {st : Stmt} {f : Addr} {fd : FuncData} {N ps : List Str} {k : Nat} {sp : SpX} (F : Fun K x qual st f fd) (S : FnScope N ps (defScope st)) (len : ∀ cls d a vs H Q E, sp cls d a vs H Q E → vs.length = ps.length)
    (hbody : ∀ (cdv : Value) (A : Around) (outer : List Env) (s : Shared) (H : Hp) (vs : List V) (Q : VK) (E : XK) (p : Addr × Obj) (cls : Value) (d : Option Addr), L2H.Hot1 A p → L2N.Zn cls d p.2 → (∃ vs, p.2.data = .fields vs) → L2H.RoomH k (A.deeper (envOfC qual (defScope st) s.heap.objs.size f cdv)) → sp cls d p.1 vs H Q E →
      ZSs (L2H.cxH (L2N.CX P w) P w K mg base N qual (defScope st) f cdv A outer s H E p) (defBody st) (fun _ H' => Q .non H') Q (fun _ _ => False) (fun _ _ => False) (start N vs) H) : RunX P w K mg base (k + 1) f fd ps sp := by
  obtain ⟨oc, od, kV, doc, pm, an, cdv, ct, osl, rfl, lk, hcd⟩ := F.ex
  intro A outer s H us vs Q E p cls d hr hot hz pk e0 hl hb r hsp
  have kin : K.In s.heap := fun a o h => (e0.bs _ _ (e0.mod.kin a o h)).1
  refine Att.call_fn kin (by obtain ⟨mc, ⟨o, es, ep, h1, h2⟩, h3⟩ := e0.mod.nolimit; exact ⟨mc, ⟨o, es, ep, (e0.bs _ _ h1).1, h2⟩, h3⟩) lk hcd (by have := hr.dp; omega) hb ?_ (fun s1 ic => ?_) S.co S.gen S.kind
  · rw [List.all_eq_true]
    intro y hy
    obtain ⟨n, hn⟩ := List.mem_iff_getElem?.mp hy
    rw [List.getElem?_zip_eq_some] at hn
    rcases S.par y.1 (List.mem_of_getElem? hn.1) with h | h <;> simp [h]
  · have I := L2H.inv_startH (CX := L2N.CX P w) (E := E) S pk e0 (len _ _ _ _ _ _ _ hsp) r ic
    refine wpAny_mono ((hbody cdv A outer s H vs Q E p cls d hot hz ⟨_, hot.2.choose_spec.1⟩ (hr.deeper _) hsp).run [] s1 I) (fun fl s' h => ?_) fun e s' h => h
    cases fl with
    | next =>
      obtain ⟨σ', H', J, q⟩ := h
      exact ⟨.non, H', J.os, J.bare, J.base, J.hok, rfl, q⟩
    | brk => obtain ⟨_, _, _, q⟩ := h; exact q.elim
    | cont => obtain ⟨_, _, _, q⟩ := h; exact q.elim
    | ret u =>
      obtain ⟨v, σ', H', J, rv, q⟩ := h
      exact ⟨v, H', J.os, J.bare, J.base, J.hok, rv, q⟩

theorem ze_callX {X : Cx} {a : Addr} {oe : Obj} {cls : Value} {d : Option Addr} {pn : List (Addr × Obj)} {σ : St} {H : Hp} {Q : VK} {P : Program} {w : World} {K : PySem.W.Frag} {mg : Str → Option Value} {base : Heap} {A : Around} {x : Str} {k j : Nat} {sp : SpX} {e : Expr} {es : List Expr} {p pos : Pos} (c : CalX P w K mg base k x sp) (hz : L2N.Zn cls d oe) (hf : ∃ vs, oe.data = .fields vs) (hr : Room j A) (hk : k ≤ j) (hX : XIs X P w K mg base A)
    (h : ZA (X.suite a ((a, oe) :: pn)) (e :: es) σ H fun vs H1 => sp cls d a vs H1 Q fun cls d H' => XW (X.suite a ((a, oe) :: pn)) cls d σ H') (hg : Gl X x)
    (hdb : (x == ("__debug__" : Str)) = false) (he : starEach (e :: es) X.env = (false, eval e X.env) :: starEach es X.env) (hpl : (backTo pos (starEach es X.env)).any (·.1) = false) : ZE (X.suite a ((a, oe) :: pn)) (.Call (.Name x p) (e :: es) [] pos) σ H Q := by
  obtain ⟨rfl, rfl, rfl, rfl, rfl, rfl⟩ := hX
  obtain ⟨f, fd, ps, R, gm, kp, hb, len⟩ := c.ex
  refine ⟨fun pins s I => ?_⟩
  refine wpAny_Call_Name_kw (ld_glob (X := X.suite a ((a, oe) :: pn)) I hg gm ?_ hdb)
  refine PySem.W.callWith_K (h₀ := X.base) I.ok.mod.kin kp (thn (h.run pos pins s I) fun us s1 ⟨vs, H1, I1, r, q⟩ => ⟨I1.kIn, ?_⟩) he hpl
  have hl : us.length = ps.length := by rw [← r.length]; exact len _ _ _ _ _ _ _ q
  obtain ⟨pg, pf, pl, pfs, pc⟩ := I1.pin (a, oe) (List.mem_append_left _ List.mem_cons_self)
  have pk : L2H.PinOk X.stack H1 s1 (a, oe) := ⟨pg, pf, fun z => by
    rcases List.mem_cons.mp (I1.stkSub _ z) with z | z
    · exact pl z
    · exact pfs z, pc⟩
  have hot : L2H.Hot1 (X.A.mark (some (.ref a))) (a, oe) := by
    obtain ⟨vs, hv⟩ := hf
    exact ⟨rfl, vs, hv, hz.2.2 vs hv⟩
  have hb' := hb s1 us I1.kIn (by rw [List.append_nil]; exact hl)
  rw [List.append_nil] at hb'
  refine wpAny_call (codeAny_mono (R (X.A.mark (some (.ref a))) X.stack s1 H1 us vs Q _ (a, oe) cls d ⟨by have := (hr.mono hk).dp; exact this, by have := (hr.mono hk).un; exact this⟩ hot hz pk I1.env0 hl hb' r q) fun r s' hq => ?_)
  cases r with
  | error e => exact takes_xw e s' (L2N.XE.of_call I1 (fun cls d H' w => w) hq)
  | ok fl =>
    cases fl with
    | ret u => exact I1.after hq
    | next => exact False.elim hq
    | brk => exact False.elim hq
    | cont => exact False.elim hq
/-- y not in x, x of an own class -/
theorem ow_notinO {X : Cx} {P : Program} {w : World} {K : PySem.W.Frag} {mg : Str → Option Value} {base : Heap} {A : Around} {σ : St} {H : Hp} {Q : VK} {a C dx : Addr} {fs : List (Str × V)} {k j : Nat} {sp : Sp} {y : V} (cm : CalM P w K mg base k C "__contains__" sp) (hr : Room j A) (hk : k ≤ j) (hX : XIs X P w K mg base A) (ea : H a = some (.ins C dx fs))
    (h : sp [.ref a, y] H (fun v H' => ∃ b, v = .bl b ∧ Q (.bl (!b)) H') fun cls d H' => XW X cls d σ H') : OpW X σ (compareOp .NotIn) y (.ref a) H Q := by
  obtain ⟨rfl, rfl, rfl, rfl, rfl, rfl⟩ := hX
  refine ⟨fun pins s v u I rx ry => ?_⟩
  cases (show u = Value.ref a from ry)
  obtain ⟨_, _, J⟩ := ins_inst I ea
  obtain ⟨mm, hF⟩ := I.fr
  obtain ⟨f, fd, ps, dvs, ds, sp0, F, hm, hb, hd, im⟩ := cm.ex
  refine PySem.W.notIn_K hF I.ok.mod.kin J hm.at_ hm.fn ?_
  refine thn (zrun (us := [.ref a, v]) (vs := [.ref a, y]) F (hr.mono hk) hb hd I (.cons rfl (.cons rx .nil)) (im _ _ _ _ h)) fun r s' z => ?_
  obtain ⟨z', H', I', rz, b, ez, qz⟩ := z
  subst ez
  cases rz
  exact wpAny_truthy_bool ⟨.bl (!b), H', I', rfl, qz⟩
theorem RoomH.u64 {k : Nat} {A : Around} (h : L2H.RoomH k A) : A.units + 64 < cLine := by have := h.un; omega
end L2

/-! Own classes that stand for a list: __iter__, __len__, __getitem__; defs with *args; several except clauses with names. -/
namespace L2
open PySem PySem.Spec PyProof.Rows
theorem cxUpN {P : Program} {w : World} : StX.CXUp (L2N.CX P w) := by
  rintro outer s H s2 H2 E e s' un kp ho ⟨a, B, H', cls, d, ea, fl, hok, ub, na, os, ag, he⟩
  refine ⟨a, B, H', cls, d, ea, fl, hok, ⟨fun b o q n hb => ub.keep b o (kp b o q) (un.free b o q n (by simp)) hb, fun b o q hb => ub.slot b o (kp b o q) hb, fun b o q n => ub.free b o (kp b o q) (un.free b o q n (by simp)),
    fun b o q hb => ub.there b o (kp b o q) hb, fun b xs q => ub.tups b xs (un.tups b xs q), fun b o xs q => ub.frzs b o xs (un.frzs b o xs q), fun b ps q => ?_⟩, na, os.trans ho, ag, he⟩
  obtain ⟨m1, e1⟩ := un.tbls b ps q
  obtain ⟨m2, e2⟩ := ub.tbls b _ e1
  exact ⟨m1 ++ m2, by rw [e2, Array.append_assoc]⟩
/-! ### iteration over an instance whose __iter__ gives a list's iterator -/
/-- a def by what it promises where n things stand in the heap -/
def RunN (P : Program) (w : World) (K : PySem.W.Frag) (mg : Str → Option Value) (base : Heap) (k : Nat) (f : Addr) (fd : FuncData) (ps : List Str) (sp : Nat → Sp) : Prop :=
  ∀ (A : Around) (outer : List Env) (s : Shared) (H : Hp) (args : Args) (us : List Value) (vs : List V) (Q : VK) (E : XK), Room k A → Env0 P w K mg base A outer s H → BindsTo s fd args (ps.zip us) → Vals vs us → sp s.heap.objs.size vs H Q E →
    codeAny (model P w) A (.call (.ref f) args) (CR (L2N.CX P w) outer P w H s Q E) s
theorem FunN.run {P : Program} {w : World} {K : PySem.W.Frag} {mg : Str → Option Value} {base : Heap} {x qual : Str} {st : Stmt} {f : Addr} {fd : FuncData} {N ps : List Str} {k : Nat} {sp : Nat → Sp} (F : Fun K x qual st f fd) (S : FnScope N ps (defScope st)) (len : ∀ n vs H Q E, sp n vs H Q E → vs.length = ps.length)
    (hbody : ∀ (cdv : Value) (A : Around) (outer : List Env) (s : Shared) (H : Hp) (vs : List V) (Q : VK) (E : XK), Room k (A.deeper (envOfC qual (defScope st) s.heap.objs.size f cdv)) → sp s.heap.objs.size vs H Q E →
      ZSs (cxN P w K mg base N qual (defScope st) f cdv A outer s H E) (defBody st) (fun _ H' => Q .non H') Q (fun _ _ => False) (fun _ _ => False) (start N vs) H) : RunN P w K mg base (k + 1) f fd ps sp := by
  obtain ⟨oc, od, kV, doc, pm, an, cdv, ct, osl, rfl, lk, hcd⟩ := F.ex
  intro A outer s H args us vs Q E hr e0 hb r hsp
  have hl := len _ _ _ _ _ hsp
  have KX : K.In s.heap := e0.mod.kin.keeps fun b o e => (e0.bs b o e).1
  have lim : s.heap.NoLimit := e0.mod.nolimit.keeps fun b o e => (e0.bs b o e).1
  have hkind : ∀ y ∈ ps.zip us, (defScope st).names.lookup y.1 = some .local ∨ ((defScope st).names.lookup y.1 = some .cell ∧ ((cellsFrom (s.heap.objs.size + 1) (defScope st).names []).lookup y.1).isSome = true) := fun y hy => by
    rcases S.par y.1 (List.of_mem_zip hy).1 with q | q
    · exact .inl q
    · exact .inr ⟨q, PySem.W.cellsFrom_some _ _ _ (.inl q)⟩
  refine codeAny_call_function hr.depth (KX _ _ lk) rfl S.co S.gen rfl (PySem.W.codeRec_of KX hcd) (hb _ _ _ _ ?_)
  refine wpAny_newFunctionEnv_cells S.kind hkind fun env he s1 x => ?_
  subst he
  refine ⟨lim.keeps x.toInCall.keep, codeAny_func ?_⟩
  have I : Inv (cxN P w K mg base N qual (defScope st) f cdv A outer s H E) [] (start N vs) H s1 := inv_start S hr.hd e0 hl r x
  refine wpAny_mono ((hbody cdv A outer s H vs Q E (hr.deeper _) hsp).run [] s1 I) (fun fl s' hs => ?_) fun e s' hs => hs
  cases fl with
  | ret u =>
    obtain ⟨v, σ', H', J, rv, q⟩ := hs
    exact ⟨v, H', J.os, J.bare, J.base, J.hok, rv, q⟩
  | next =>
    obtain ⟨σ', H', J, q⟩ := hs
    exact ⟨.non, H', J.os, J.bare, J.base, J.hok, rfl, q⟩
  | brk =>
    obtain ⟨_, _, _, q⟩ := hs
    exact q.elim
  | cont =>
    obtain ⟨_, _, _, q⟩ := hs
    exact q.elim
/-- its __iter__ gives a new iterator of the list in the field fld -/
structure ItOwn (P : Program) (w : World) (K : PySem.W.Frag) (mg : Str → Option Value) (base : Heap) (k : Nat) (C : Addr) (fld : Str) : Prop where
  ex : ∃ (f : Addr) (fd : FuncData) (x : Str) (sp : Nat → Sp), PySem.W.findIn K (.ref C) "__iter__" = some (some (.ref f)) ∧ PySem.W.isFn K (.ref f) = true ∧ RunN P w K mg base k f fd [x] sp ∧ Binds K fd [x] [] ∧
    ∀ (n : Nat) (p dx l : Addr) (fs : List (Str × V)) (xs : List V) (H : Hp) (Q : VK) (E : XK), H p = some (.ins C dx fs) → fs.lookup fld = some (.ref l) → SqL K H l xs → (∀ it, NoA H it → n ≤ it → Q (.ref it) (upd H it (ItO l it 0))) → sp n [.ref p] H Q E
theorem itlF_zero {K : PySem.W.Frag} {a : Addr} : ItX.ItlF K a 0 = Itl K a := by
  unfold ItX.ItlF
  simp only [Nat.zero_add]
section
variable {X : Cx} {P : Program} {w : World} {K : PySem.W.Frag} {mg : Str → Option Value} {base : Heap} {A : Around} {σ : St} {H : Hp} {Q : VK} {C : Addr} {fld : Str} {k j : Nat} {e tg : Expr}
theorem zi_own {R : It → Hp → Prop} (c : ItOwn P w K mg base k C fld) (hr : Room j A) (hk : k ≤ j) (hX : XIs X P w K mg base A)
    (h : ZE X e σ H fun x H1 => ∃ p dx l fs xs, x = .ref p ∧ H1 p = some (.ins C dx fs) ∧ fs.lookup fld = some (.ref l) ∧ SqL K H1 l xs ∧ R (Itl K l) H1) : ZI X tg e σ H R := by
  obtain ⟨rfl, rfl, rfl, rfl, rfl, rfl⟩ := hX
  obtain ⟨f, fd, x0, sp, hit, hf, F, hb, im⟩ := c.ex
  refine ⟨fun pins s I => thn (h.run pins s I) fun u s1 ⟨x, H1, I1, r1, p, dx, l, fs, xs, ex, hp, hl, hq, q⟩ => ?_⟩
  subst ex
  obtain rfl : u = Value.ref p := r1
  obtain ⟨mA, J, _⟩ := ins_get I1.hok hp
  obtain ⟨od, J, _⟩ := J.look
  obtain ⟨m0, hF⟩ := I1.fr
  refine PySem.W.owit_iter hF I1.ok.mod.kin J hit hf ?_
  have want : sp s1.heap.objs.size [.ref p] H1 (fun v H2 => ∃ it, v = .ref it ∧ NoA H1 it ∧ s1.heap.objs.size ≤ it ∧ H2 = upd H1 it (ItO l it 0)) (fun _ _ _ => False) := im _ p dx l fs xs H1 _ _ hp hl hq fun it n big => ⟨it, rfl, n, big, rfl⟩
  have r2 : Vals [V.ref p] [Value.ref p] := .cons rfl .nil
  have bind := hb s1 [.ref p] I1.kIn rfl
  rw [List.append_nil] at bind
  refine wpAny_call (codeAny_mono (F X.A X.stack s1 H1 ⟨[.ref p], []⟩ [.ref p] [.ref p] _ _ (hr.mono hk) I1.env0 bind r2 want) fun r s' got => ?_)
  cases r with
  | error ev =>
    obtain ⟨a, B, H', cls, d, e1, fl, hok, ub, na, os, ag, hE⟩ := got
    exact hE.elim
  | ok fl =>
    cases fl with
    | next => exact got.elim
    | brk => exact got.elim
    | cont => exact got.elim
    | ret u =>
      obtain ⟨v, H', I2, rv, it, ev, hn, big, eH⟩ := I1.after got
      subst ev eH
      obtain rfl : u = Value.ref it := rv
      have hi : upd H1 it (ItO l it 0) it = some (ItO l it 0) := upd_same
      have eo := itO_get I2 hi
      have st : s'.heap.IsListIter it l (0 + 0) := ⟨_, eo, rfl, rfl⟩
      unfold PySem.W.OwitIt
      have hT : s'.TypeIs (.ref it) "list_iterator" := ⟨_, eo, rfl⟩
      refine wpAny_specialOf (name := Str.ofString "__next__") hT slot_listiter_next.lookup ?_
      have hi' := hi
      unfold ItO at hi'
      have hd : ItX.dropH (upd H1 it (ItO l it 0)) it = H1 := ItX.dropH_upd hn.e
      refine ⟨it, [it], _, _, ItX.dropH (upd H1 it (ItO l it 0)) it, rfl, ItX.inv_drop I2 hi', ItX.turn_listF l it 0, st, fun b hb => ?_, by rw [hd, itlF_zero]; exact q⟩
      have e : b = it := by simpa using hb
      rw [e]
      exact ItX.inv_fp I2 hi (Nat.le_trans I1.sz big)
/-- for tg in an instance -/
theorem zs_forO {body : List Stmt} {nx bk ct : NX} {rt : VK} {pos : Pos} (c : ItOwn P w K mg base k C fld) (hr : Room j A) (hk : k ≤ j) (hX : XIs X P w K mg base A) (hp : PassesOwn (model X.prog X.w) X.A X.env X.xe) (hc : X.calm = true)
    (h : ZE X e σ H fun x H1 => ∃ p dx l fs xs, x = .ref p ∧ H1 p = some (.ins C dx fs) ∧ fs.lookup fld = some (.ref l) ∧ SqL X.K H1 l xs ∧ ∃ Iv : Nat → St → Hp → Prop, Iv 0 σ H1 ∧ (∀ i σ1 H2, i ≤ xs.length → Iv i σ1 H2 → SqL X.K H2 l xs) ∧
      (∀ i y σ1 H2, xs[i]? = some y → Iv i σ1 H2 → ZG X tg y σ1 H2 fun σ2 H3 => ZSs X body (Iv (i + 1)) rt nx (Iv (i + 1)) σ2 H3) ∧ ∀ σ1 H2, Iv xs.length σ1 H2 → nx σ1 H2)
    (hs : ∀ x, foldedSetIterable e X.env x = pure x := by intro _; rfl) : ZS X (.For tg e body [] pos) nx rt bk ct σ H := by
  refine zs_for hp hc (zi_own c hr hk hX ?_) hs
  refine ⟨fun pins s I => thn (h.run pins s I) fun u s1 hh => ?_⟩
  obtain ⟨x, H1, I1, r1, q, dx, l, fs, xs, ex, ep, el, hl, Iv, i0, kp, st, fi⟩ := hh
  refine ⟨x, H1, I1, r1, q, dx, l, fs, xs, ex, ep, el, by rw [← hX.K]; exact hl, fun i m σ' H' => m = xs.length - i ∧ i ≤ xs.length ∧ Iv i σ' H', ⟨_, rfl, Nat.zero_le _, i0⟩, ?_⟩
  rintro i m σ' H' ⟨rfl, hi, iv⟩
  have hl' := kp i σ' H' hi iv
  rw [hX.K] at hl'
  by_cases hlt : i < xs.length
  · refine .inr ⟨⟨xs, xs[i], hl', by simp [hlt]⟩, Iv (i + 1), fun σ2 H2 q => ⟨_, by omega, rfl, hlt, q⟩, fun y H2 yy => ?_⟩
    obtain ⟨e, yy⟩ := yy
    subst e
    exact st i y σ' _ (yy xs hl') iv
  · have e : i = xs.length := by omega
    subst e
    exact .inl ⟨⟨xs, hl', Nat.le_refl _⟩, fi _ _ iv⟩
/-- [elt for tg in an instance] -/
theorem ze_lcO {elt : Expr} {scope : Scope} {own : List (Str × Nat)} {pos : Pos} (c : ItOwn P w K mg base k C fld) (hr : Room j A) (hk : k ≤ j) (hX : XIs X P w K mg base A) (hc : X.calm = true) (hN : X.N.Nodup) (ok : BlkOk X.N X.env.scope scope own)
    (h : ZE X e σ H fun x H1 => ∃ p dx l fs xs, x = .ref p ∧ H1 p = some (.ins C dx fs) ∧ fs.lookup fld = some (.ref l) ∧ SqL X.K H1 l xs ∧ ∀ D, H1 D = none → ∃ Pv : Nat → Hp → Prop, Pv 0 (upd H1 D (.lst [])) ∧ (∀ i H, i ≤ xs.length → Pv i H → SqL X.K H l xs) ∧
      (∀ i x H, xs[i]? = some x → Pv i H → gBlk X scope tg x (wipe σ (own.map (·.2))) H fun σ2 H2 => wipe σ2 (own.map (·.2)) = wipe σ (own.map (·.2)) ∧ eBlk X scope elt σ2 H2 fun y H4 => ∃ acc, H4 D = some (.lst acc) ∧ acc.length < sizeLine ∧ Pv (i + 1) (upd H4 D (.lst (acc ++ [y])))) ∧
      ∀ H, Pv xs.length H → Q (.ref D) H)
    (hs : ∀ x, foldedSetIterable e X.env x = pure x := by intro _; rfl) : ZE X (.ListComp elt [⟨tg, e, [], 0⟩] scope pos) σ H Q := by
  refine (pe_lc (tt := tYes) hc hN (pi_wi (a := tg)) ok pg_blk (fun _ _ _ _ _ => pts_nil) pe_blk hs).w ?_
  refine zi_own c hr hk hX ?_
  refine ⟨fun pins s I => thn (h.run pins s I) fun u s1 hh => ?_⟩
  obtain ⟨x, H1, I1, r1, q, dx, l, fs, xs, ex, ep, el, hl, k⟩ := hh
  rw [hX.K] at hl
  refine ⟨x, H1, I1, r1, q, dx, l, fs, xs, ex, ep, el, hl, fun D hD => ?_⟩
  obtain ⟨Pv, h0, hk, hs', hd⟩ := k D hD
  rw [hX.K] at hk
  exact lc_list (g := gBlk X scope tg) (te := eBlk X scope elt) (tt := tYes) Pv h0 hk (fun i x H hx hp => hs' i x _ hx hp) hd
end
end L2
namespace L2
open PySem PySem.Spec PyProof.Rows
/-! ### len, [i] -/
section
variable {X : Cx} {P : Program} {w : World} {K : PySem.W.Frag} {mg : Str → Option Value} {base : Heap} {A : Around} {σ : St} {H : Hp} {Q : VK} {a C dx : Addr} {fs : List (Str × V)} {k j : Nat} {sp : Sp}
/-- len(x), x of an own class -/
theorem cw_lenO (cm : CalM P w K mg base k C "__len__" sp) (hr : Room j A) (hk : k + 1 ≤ j) (hX : XIs X P w K mg base A) (ea : H a = some (.ins C dx fs)) (h : sp [.ref a] H (fun v H' => ∃ n : Nat, v = .int n ∧ n < 2 ^ 62 ∧ Q (.int n) H') fun _ _ _ => False) : CallW X (.builtin "len") [.ref a] H Q := by
  obtain ⟨rfl, rfl, rfl, rfl, rfl, rfl⟩ := hX
  refine ⟨fun pins s σ us I r => ?_⟩
  cases r with
  | cons ru rn =>
    cases rn
    cases ru
    obtain ⟨_, _, J⟩ := ins_inst I ea
    obtain ⟨m, hF⟩ := I.fr
    obtain ⟨f, h1, h2, h3⟩ := zrun1 (E' := X.xe) (σ := σ) cm hr hk I (.cons (show RelV (.ref a) (.ref a) from rfl) .nil) h
    refine PySem.W.len_K hF I.ok.mod.kin J h1 h2 (wpAny_mono h3 (fun u s' z => ?_) fun _ _ x => x)
    obtain ⟨v, H', I', rv, n, rfl, hn, q⟩ := z
    obtain ⟨t, rfl⟩ := rv
    exact ⟨⟨by omega, by omega⟩, V.int n, H', I'.tok _, ⟨_, rfl⟩, q⟩
end
/-! ### a class whose __init__ takes *args -/
theorem evalArgs_two {M : Model} {A : Around} {E : Value → Shared → Prop} {s : Shared} {f : Value} {a b : Bool} {x y : Sem Value} {rest : List (Bool × Sem Value)} {Q : Args → Shared → Prop}
    (h : wpAny M A (spliced ((a, x) :: (b, y) :: rest)) (fun vs s' => Q ⟨vs, []⟩ s') E s) : wpAny M A (evalArgs f true ((a, x) :: (b, y) :: rest) []) Q E s := by
  unfold evalArgs
  cases a <;> (show wpAny M A (spliced _ >>= _) Q E s; refine wpAny_bind (wpAny_mono h (fun vs s' h' => ?_) fun _ _ x => x); refine wpAny_holding ?_; exact wpAny_bind (wpAny_pure (wpAny_bind (wpAny_pure (wpAny_pure h')))))
structure CalCR (P : Program) (w : World) (K : PySem.W.Frag) (mg : Str → Option Value) (base : Heap) (k : Nat) (x : Str) (C : Addr) (sp : Sp) : Prop where
  ex : ∃ (f : Addr) (sp0 : Sp), L2.Mk K C f ∧ FnR P w K mg base (L2N.CX P w) k f sp0 ∧ mg x = some (.ref C) ∧ ∀ vs H Q E, sp vs H Q E → sp0 vs H Q E
/-- such a def by its body -/
theorem FunS.ok {P : Program} {w : World} {K : PySem.W.Frag} {mg : Str → Option Value} {base : Heap} {x qual pv : Str} {st : Stmt} {f : Addr} {fd : FuncData} {N ps : List Str} {k : Nat} {sp : Sp} (F : Fun K x qual st f fd) (S : FnScope N (ps ++ [pv]) (defScope st))
    (hb : ∀ kV doc pm an cdv ct (us rest : List Value), us.length = ps.length → bindArgs (PySem.W.fnOf x qual (defArgs st) (defBody st) (defScope st) .none kV doc pm an cdv ct) ⟨us ++ rest, []⟩ = (newTuple rest >>= fun t => pure (ps.zip us ++ [(pv, t)])))
    (hbody : ∀ (cdv : Value) (A : Around) (outer : List Env) (s : Shared) (H : Hp) (vs : List V) (Q : VK) (E : XK), Room k (A.deeper (envOfC qual (defScope st) s.heap.objs.size f cdv)) → sp vs H Q E →
      ZSs (cxN P w K mg base N qual (defScope st) f cdv A outer s H E) (defBody st) (fun _ H' => Q .non H') Q (fun _ _ => False) (fun _ _ => False) (start N vs) H) :
    FnR P w K mg base (L2N.CX P w) (k + 1) f (fun vs H Q E => ∃ ws rest, vs = ws ++ rest ∧ ws.length = ps.length ∧ rest.length ≤ sizeLine ∧ ∀ p, H p = Option.none → sp (ws ++ [V.ref p]) (upd H p (.tup rest)) Q E) := by
  obtain ⟨oc, od, kV, doc, pm, an, cdv, ct, osl, rfl, lk, hcd⟩ := F.ex
  exact StX.fn_star lk hcd S cxUpN (hb kV doc pm an cdv ct) fun A outer s H vs Q E hr hsp => ⟨_, pss_wss, hbody cdv A outer s H vs Q E hr hsp⟩
section
variable {X : Cx} {P : Program} {w : World} {K : PySem.W.Frag} {mg : Str → Option Value} {base : Heap} {A : Around} {x : Str} {C : Addr} {k j : Nat} {sp : Sp} {e b : Expr} {es : List Expr} {σ : St} {H : Hp} {Q : VK} {p pos sp_ : Pos}
theorem mrunR {f : Addr} {pins : List (Addr × Obj)} {s : Shared} {us : List Value} {vs : List V} (M : L2.Mk X.K C f) (F : FnR X.prog X.w X.K X.mg X.base (L2N.CX X.prog X.w) k f sp) (hr : Room (k + 1) X.A) (I : Inv X pins σ H s) (r : Vals vs us)
    (h : ∀ a dx, NoA H a → NoA H dx → dx ≠ a → sp (.ref a :: vs) (upd (upd H dx (.own a)) a (.ins C dx [])) (fun v H2 => v = .non ∧ Q (.ref a) H2) (fun cls d H' => XW X cls d σ H')) : wpAny (model X.prog X.w) X.A (call (.ref C) us) (EP X pins σ Q) X.xe s := by
  have f1 : NoA H (s.heap.objs.size + 1) := ⟨I.hok.fresh (Nat.le_succ _)⟩
  have f2 : NoA H s.heap.objs.size := ⟨I.hok.fresh (Nat.le_refl _)⟩
  have want := h _ _ f1 f2 (Nat.ne_of_lt (Nat.lt_succ_self _))
  have made := Inv.made (C := C) I
  have vals : Vals (V.ref (s.heap.objs.size + 1) :: vs) (Value.ref (s.heap.objs.size + 1) :: us) := .cons rfl r
  have body := F _ X.stack _ _ (Value.ref (s.heap.objs.size + 1) :: us) _ _ _ (hr.make C us []) (made.env0.make C us []) vals want
  refine wpAny_call (make_map (f := f) I.kIn M.makes M.init (beq_iff_eq.mp M.fn) (codeAny_mono body fun r s' got => ?_))
  cases r with
  | error ev => exact takes_xw ev s' (L2N.XE.of_call made (fun cls d H' w => w) got)
  | ok fl =>
    cases fl with
    | ret u =>
      obtain ⟨v, H', J, rv, ev, q3⟩ := made.after got
      subst ev
      exact ⟨rv, V.ref (s.heap.objs.size + 1), H', J, rfl, q3⟩
    | next => exact got.elim
    | brk => exact got.elim
    | cont => exact got.elim
theorem s_makeR (c : CalCR P w K mg base k x C sp) (hr : Room j A) (hk : k + 1 ≤ j) (hX : XIs X P w K mg base A)
    (h : ZA X (e :: es) σ H fun vs H1 => ∀ a dx, NoA H1 a → NoA H1 dx → dx ≠ a → sp (.ref a :: vs) (upd (upd H1 dx (.own a)) a (.ins C dx [])) (fun v H2 => v = .non ∧ Q (.ref a) H2) (fun cls d H' => XW X cls d σ H')) (hg : Gl X x)
    (hdb : (x == ("__debug__" : Str)) = false) (he : starEach (e :: es) X.env = (false, eval e X.env) :: starEach es X.env) (hpl : (backTo pos (starEach es X.env)).any (·.1) = false) : ZE X (.Call (.Name x p) (e :: es) [] pos) σ H Q := by
  obtain ⟨rfl, rfl, rfl, rfl, rfl, rfl⟩ := hX
  obtain ⟨f, sp0, M, F, gm, im⟩ := c.ex
  refine ⟨fun pins s I => ?_⟩
  refine wpAny_Call_Name_kw (ld_glob I hg gm ?_ hdb)
  refine PySem.W.callWith_K (h₀ := X.base) I.ok.mod.kin M.kp (thn (h.run pos pins s I) fun us s1 ⟨vs, H1, I1, r, q⟩ => ⟨I1.kIn, ?_⟩) he hpl
  exact mrunR M F (hr.mono hk) I1 r fun a dx n1 n2 ne => im _ _ _ _ (q a dx n1 n2 ne)
theorem s_makeR0 (c : CalCR P w K mg base k x C sp) (hr : Room j A) (hk : k + 1 ≤ j) (hX : XIs X P w K mg base A)
    (h : ∀ a dx, NoA H a → NoA H dx → dx ≠ a → sp [.ref a] (upd (upd H dx (.own a)) a (.ins C dx [])) (fun v H2 => v = .non ∧ Q (.ref a) H2) (fun cls d H' => XW X cls d σ H')) (hg : Gl X x)
    (hdb : (x == ("__debug__" : Str)) = false) : ZE X (.Call (.Name x p) [] [] pos) σ H Q := by
  obtain ⟨rfl, rfl, rfl, rfl, rfl, rfl⟩ := hX
  obtain ⟨f, sp0, M, F, gm, im⟩ := c.ex
  refine ⟨fun pins s I => ?_⟩
  refine wpAny_Call_Name_kw (ld_glob I hg gm ?_ hdb)
  refine PySem.W.callWith_K0 I.kIn M.kp ?_
  exact mrunR M F (hr.mono hk) I .nil fun a dx n1 n2 ne => im _ _ _ _ (h a dx n1 n2 ne)
/-- *e ahead of other arguments -/
theorem za_star {Q : List V → Hp → Prop} (h : ZE X e σ H fun x H1 => ∃ a xs, x = .ref a ∧ (SqT X.K H1 a xs ∨ SqL X.K H1 a xs) ∧ ZA X es σ H1 fun ys H2 => Q (xs ++ ys) H2) (hs : starEach (.Starred e p :: es) X.env = (true, eval e X.env) :: starEach es X.env) : ZA X (.Starred e p :: es) σ H Q :=
  ⟨fun pos pins s I => (StX.pa_star pe_we pa_wa hs).run pos pins s σ H Q I h⟩
theorem s_makeS (c : CalCR P w K mg base k x C sp) (hr : Room j A) (hk : k + 1 ≤ j) (hX : XIs X P w K mg base A)
    (h : ZA X (.Starred e sp_ :: b :: es) σ H fun vs H1 => ∀ a dx, NoA H1 a → NoA H1 dx → dx ≠ a → sp (.ref a :: vs) (upd (upd H1 dx (.own a)) a (.ins C dx [])) (fun v H2 => v = .non ∧ Q (.ref a) H2) (fun cls d H' => XW X cls d σ H')) (hg : Gl X x)
    (hdb : (x == ("__debug__" : Str)) = false) (he : starEach (.Starred e sp_ :: b :: es) X.env = (true, eval e X.env) :: (false, eval b X.env) :: starEach es X.env) : ZE X (.Call (.Name x p) (.Starred e sp_ :: b :: es) [] pos) σ H Q := by
  obtain ⟨rfl, rfl, rfl, rfl, rfl, rfl⟩ := hX
  obtain ⟨f, sp0, M, F, gm, im⟩ := c.ex
  refine ⟨fun pins s I => ?_⟩
  refine wpAny_Call_Name_kw (ld_glob I hg gm ?_ hdb)
  have hh := h.run pos pins s I
  rw [he] at hh ⊢
  refine PySem.W.ks_call (P := X.K.In) rfl (PySem.W.keeps_K M.kp) (evalArgs_two (thn hh fun us s1 ⟨vs, H1, I1, r, q⟩ => ⟨I1.kIn, ?_⟩))
  exact mrunR M F (hr.mono hk) I1 r fun a dx n1 n2 ne => im _ _ _ _ (q a dx n1 n2 ne)
/-- x(*e) -/
theorem s_makeS1 (c : CalCR P w K mg base k x C sp) (hr : Room j A) (hk : k + 1 ≤ j) (hX : XIs X P w K mg base A)
    (h : ZE X e σ H fun y H1 => ∃ t xs, y = .ref t ∧ (SqT X.K H1 t xs ∨ SqL X.K H1 t xs) ∧ ∀ a dx, NoA H1 a → NoA H1 dx → dx ≠ a → sp (.ref a :: xs) (upd (upd H1 dx (.own a)) a (.ins C dx [])) (fun v H2 => v = .non ∧ Q (.ref a) H2) (fun cls d H' => XW X cls d σ H')) (hg : Gl X x)
    (hdb : (x == ("__debug__" : Str)) = false) (he : starEach [.Starred e sp_] X.env = [(true, eval e X.env)]) : ZE X (.Call (.Name x p) [.Starred e sp_] [] pos) σ H Q := by
  obtain ⟨rfl, rfl, rfl, rfl, rfl, rfl⟩ := hX
  obtain ⟨f, sp0, M, F, gm, im⟩ := c.ex
  refine ⟨fun pins s I => ?_⟩
  refine wpAny_Call_Name_kw (ld_glob I hg gm ?_ hdb)
  refine PySem.W.callWith_S (h₀ := X.base) I.ok.mod.kin M.kp (thn (h.run pins s I) fun v s1 ⟨y, H1, I1, ry, t, xs, ey, hxs, q⟩ => ?_) he
  subst ey
  obtain rfl : v = Value.ref t := ry
  exact StX.star_any I1 hxs fun us s2 I2 rv => ⟨I2.kIn, mrunR M F (hr.mono hk) I2 rv fun a dx n1 n2 ne => im _ _ _ _ (q a dx n1 n2 ne)⟩
end
end L2
namespace L2
open PySem PySem.Spec PyProof.Rows
/-! ### several except clauses with names -/
/-- what the clauses wish: name's place, class, suite -/
def wManyA (K : PySem.W.Frag) (Wout : WX) (D : Ends) : List (Nat × Value × (Addr → Value → Option Addr → TS)) → WX
  | [] => Wout
  | (i, c, ts) :: r => wAs K c i ts (wManyA K Wout D r) D
inductive HdsA (X : Cx) : List ExceptHandler → List (Nat × Value × (Addr → Value → Option Addr → TS)) → Prop
  | nil : HdsA X [] []
  | cons {x n : Str} {i : Nat} {c : Value} {ts : Addr → Value → Option Addr → TS} {b₀ : Stmt} {suite : List Stmt} {np pos' : Pos} {hds : List ExceptHandler} {l : List (Nat × Value × (Addr → Value → Option Addr → TS))} (hi : X.N[i]? = some n) (hln : X.env.kindOf n = some .local) (hc : Names X x c)
      (hsu : ∀ (a : Addr) (oe : Obj) (cls : Value) (d : Option Addr) (pn : List (Addr × Obj)), L2N.Zn cls d oe → (∃ vs, oe.data = .fields vs) → PSs (X.suite a ((a, oe) :: pn)) (b₀ :: suite) (ts a cls d)) (r : HdsA X hds l) :
      HdsA X (.ExceptHandler (some (.Name x np)) (some n) (b₀ :: suite) pos' :: hds) ((i, c, ts) :: l)
section
variable {X : Cx} {body : List Stmt} {h₀ : ExceptHandler} {hds : List ExceptHandler} {l : List (Nat × Value × (Addr → Value → Option Addr → TS))} {pos : Pos} {tb : WX → TS} {Wout : WX}
theorem ps_try_manyA (hs : X.stack = X.env :: X.outer) (hf : X.env.frame = some X.env.locals) (hN : X.N.Nodup) (tk : L2N.Takes X Wout)
    (hb : ∀ (W : WX) (pn : List (Addr × Obj)) (xe : Value → Shared → Prop), L2N.Takes (X.tr pn xe) W → PassesOwn (model X.prog X.w) X.A X.env xe → PSs (X.tr pn xe) body (tb W))
    (hh : HdsA X (h₀ :: hds) l) : PS X (.Try body (h₀ :: hds) [] [] pos) (fun D σ H => tb (wManyA X.K Wout D l) D σ H) := by
  refine ⟨fun pins s σ H D I h => ?_⟩
  have ok := I.ok
  have hfr : X.A.frames = some (X.env :: X.outer) := by rw [ok.frames, hs]
  refine wpAny_Try_except ?_
  refine wpAny_mono ((hb (wManyA X.K Wout D l) (X.pn ++ pins) (fun e s₁ => wpAny (model X.prog X.w) X.A (noteFrame e X.env) (fun _ s₂ => wpAny (model X.prog X.w) X.A (setFlight e none) (fun _ s₃ =>
    wpAny (model X.prog X.w) X.A (handleBy e X.env (h₀ :: hds)) (SP X pins D) X.xe s₃) X.xe s₂) X.xe s₁) (fun u s' xx => ?_) PassesOwn.looking).run [] s σ H D (I.toTry _) h) (fun f s1 hsp => ?_) (fun e s1 he => he)
  · obtain ⟨a, B, sI, pins', σ', H', cls, d, rfl, J', nb, up, sky, na, os, ag, w⟩ := xx
    have J : Inv X pins σ' H' sI := J'.ofTry ok
    have sky' : Sky B (X.env :: X.outer) a (L2N.Zn cls d) X.env.locals s'.heap := by rw [← hs]; exact sky
    show wpAny (model X.prog X.w) X.A (noteFrame (.ref a) X.env) _ _ _
    refine L2N.Sky.land L2N.Zn.steady hfr hf sky' fun h3 fl3 up3 => ?_
    have J3 : Inv X pins σ' H' { s' with heap := h3 } := J.landed nb fl3.1 (up.trans up3) os ag
    obtain ⟨oe3, vs3, he3, hz3, hd3⟩ := fl3.there
    have notFr : ∀ {h : Heap} {o : Obj} {vs : Array Value}, h.FunFrames B (X.env :: X.outer) → h.get? a = some o → o.data = .fields vs → a ∉ frs (X.env :: X.outer) := fun {h o vs} ff e dd hm => by
      obtain ⟨_, o', e', hnf⟩ := ff.mem hm
      rw [e] at e'; cases e'
      exact hnf _ dd
    have nfr := notFr fl3.2.2.1 he3 hd3
    have nL : a ≠ X.env.locals := fun z => nfr (List.mem_filterMap.mpr ⟨X.env, List.mem_cons_self, by rw [hf, z]⟩)
    have nF : a ∉ X.fs := fun hm => by
      obtain ⟨e, he, q⟩ := List.mem_filterMap.mp hm
      exact nfr (List.mem_filterMap.mpr ⟨e, List.mem_cons_of_mem _ he, q⟩)
    have S3 := J3.suite he3 hd3 na nL nF
    have go : ∀ {hds' : List ExceptHandler} {l' : List (Nat × Value × (Addr → Value → Option Addr → TS))}, HdsA X hds' l' → wManyA X.K Wout D l' cls d σ' H' →
        wpAny (model X.prog X.w) X.A (handleBy (.ref a) X.env hds') (SP X pins D) X.xe { s' with heap := h3 } := by
      intro hds' l' hk
      induction hk with
      | nil =>
        intro w
        refine wpAny_handleBy_nil ?_
        obtain ⟨k1, k2, k3, oe, vs, T, oT, ts', he, hz, hd, h1, hr⟩ := id fl3
        unfold PySem.passOn
        refine wpAny_bind (wpAny_field he hd h1 ?_)
        rw [if_neg (show ¬ ((Value.ref T == Value.none) = true) from by simp)]
        have fin : wpAny (model X.prog X.w) X.A (setFlight (.ref a) X.env.frame) (fun _ s4 => wpAny (model X.prog X.w) X.A (throw (.ref a) : Sem Flow) (SP X pins D) X.xe s4) X.xe { s' with heap := h3 } := by
          rw [hf]
          refine HandSPX.setFlight_upZ fl3 fun h4 hh4 up4 => wpAny_throw (tk _ _ ?_)
          exact ⟨a, B, sI, pins, σ', H', cls, d, rfl, J, nb, (up.trans up3).trans up4, .inr (.inr (by rw [hs]; exact hh4)), na, os, ag, w⟩
        first
          | exact wpAny_bind (wpAny_pure (wpAny_bind fin))
          | exact wpAny_bind fin
      | @cons x n i c ts b₀ suite np pos' hds2 l2 hi hln hc hsu r ih =>
        intro w
        have hloc : Loc X.env.scope n := .inl hln
        obtain ⟨b, hb1, hyes, hno⟩ := w
        refine wpAny_handleBy_cons (codeAny_handlers_test ?_) (by intro q; cases q)
        have LT : PySem.W.Looks (model X.prog X.w) h3 (typeOf (.ref a)) cls := fun A Q E s k q => wpAny_typeOf_ref (k _ _ he3) (by rw [hz3.1]; exact q)
        have LM := PySem.W.exm_one (M := model X.prog X.w) (J3.kIn) LT hb1
        have test : ∀ {Q : Value → Shared → Prop} {E : Value → Shared → Prop}, Q c { s' with heap := h3 } → wpAny (model X.prog X.w) (X.A.mark (some (.ref a))) (eval (.Name x np) X.env) Q E { s' with heap := h3 } := fun {Q E} q => by
          obtain ⟨hg, hdbg, hm | ⟨hm, hv, hnn⟩⟩ := hc
          · exact ld_glob (X := X.suite a ((a, oe3) :: (X.pn ++ pins))) S3 hg hm q hdbg
          · exact ld_blt (X := X.suite a ((a, oe3) :: (X.pn ++ pins))) S3 hg hm hv q hnn hdbg
        refine test (LM.here ?_)
        cases b with
        | true =>
          refine codeAny_handlers_suite_as ?_
          refine HandSPX.lands_againZ fl3 fun h4 fl4 up4 => ?_
          have J4 : Inv X pins σ' H' { s' with heap := h4 } := J.landed nb fl4.1 ((up.trans up3).trans up4) os ag
          obtain ⟨oe4, vs4, he4, hz4, hd4⟩ := fl4.there
          have S4 := J4.suite he4 hd4 na nL nF
          refine store_ok (X := X.suite a ((a, oe4) :: (X.pn ++ pins))) (v := .ref a) S4 hN hi hloc rfl (fun s5 S5 => ?_) (.inr hln)
          refine wpAny_mono ((hsu a oe4 cls d (X.pn ++ pins) hz4 ⟨_, hd4⟩).run [] s5 _ H' _ S5 (hyes rfl a na)) (fun f s6 hsp => ?_) (fun _ _ z => False.elim z)
          have end_ : ∀ {σ6 : St} {H6 : Hp} {Q : Shared → Prop}, Inv (X.suite a ((a, oe4) :: (X.pn ++ pins))) [] σ6 H6 s6 → (∀ s7, Inv X pins (σ6.set i none) H6 s7 → Q s7) →
              wpAny (model X.prog X.w) X.A (do bindName X.env n .none; unbindBehindTheSuite X.env n pos') (fun _ s7 => Q s7) X.xe s6 := fun {σ6 H6 Q} S6 hq => gone_ok (S6.unsuite ok) hN hi hln hq
          cases f with
          | next =>
            obtain ⟨σ6, H6, S6, q6⟩ := hsp
            exact end_ S6 fun s7 J7 => ⟨_, _, J7, q6⟩
          | brk =>
            obtain ⟨σ6, H6, S6, q6⟩ := hsp
            exact end_ S6 fun s7 J7 => ⟨_, _, J7, q6⟩
          | cont =>
            obtain ⟨σ6, H6, S6, q6⟩ := hsp
            exact end_ S6 fun s7 J7 => ⟨_, _, J7, q6⟩
          | ret u =>
            obtain ⟨v6, σ6, H6, S6, r6, q6⟩ := hsp
            exact end_ S6 fun s7 J7 => ⟨_, _, _, J7, r6, q6⟩
        | false =>
          show wpAny _ X.A (handleBy (.ref a) X.env hds2) _ _ _
          exact ih (hno rfl)
    exact go hh w
  · cases f with
    | next =>
      obtain ⟨σ', H', J', q⟩ := hsp
      exact wpAny_execs_nil ⟨σ', H', J'.ofTry ok, q⟩
    | brk =>
      obtain ⟨σ', H', J', q⟩ := hsp
      exact ⟨σ', H', J'.ofTry ok, q⟩
    | cont =>
      obtain ⟨σ', H', J', q⟩ := hsp
      exact ⟨σ', H', J'.ofTry ok, q⟩
    | ret u =>
      obtain ⟨v, σ', H', J', r, q⟩ := hsp
      exact ⟨v, σ', H', J'.ofTry ok, r, q⟩
end
/-- what a clause's suite owes -/
def SuW (X : Cx) (b₀ : Stmt) (suite : List Stmt) (i : Nat) (nx bk ct : NX) (rt : VK) (cls : Value) (d : Option Addr) (σ : St) (H : Hp) : Prop :=
  ∀ a, H a = none → ∀ (oe : Obj) (pn : List (Addr × Obj)), L2N.Zn cls d oe → (∃ vs, oe.data = .fields vs) → ZSs (X.suite a ((a, oe) :: pn)) (b₀ :: suite) (fun σ' H' => nx (σ'.set i none) H') rt (fun σ' H' => bk (σ'.set i none) H') (fun σ' H' => ct (σ'.set i none) H') (σ.set i (some (.ref a))) H
/-- try with two except clauses -/
theorem s_try2 {X : Cx} {P : Program} {w : World} {K : PySem.W.Frag} {mg : Str → Option Value} {base : Heap} {A : Around} {σ : St} {H : Hp} {x n x2 n2 : Str} {CL CL2 : Addr} {i i2 : Nat} {body suite suite2 : List Stmt} {b₀ b2 : Stmt} {np pos pos' np2 pos2 : Pos} {N : List Str} {M : Nat} {sc : Scope} {nx bk ct : NX} {rt : VK} (gC : mg x = some (.ref CL)) (gC2 : mg x2 = some (.ref CL2)) (S : NOk N M sc) (hX : XIs X P w K mg base A) (hN : X.N = N ∧ X.env.scope = sc) (hi : N[i]? = some n) (hi2 : N[i2]? = some n2)
    (hs : X.stack = X.env :: X.outer) (hf : X.env.frame = some X.env.locals) (hln : X.env.kindOf n = some .local) (hln2 : X.env.kindOf n2 = some .local) (hg : Gl X x) (hdb : (x == ("__debug__" : Str)) = false) (hg2 : Gl X x2) (hdb2 : (x2 == ("__debug__" : Str)) = false)
    (h : ∀ (pn : List (Addr × Obj)) (xe : Value → Shared → Prop), (∀ cls d σ H, (∃ b, PySem.W.exmOne K cls (.ref CL) = some b ∧ (b = true → SuW X b₀ suite i nx bk ct rt cls d σ H) ∧ (b = false → ∃ b', PySem.W.exmOne K cls (.ref CL2) = some b' ∧ (b' = true → SuW X b2 suite2 i2 nx bk ct rt cls d σ H) ∧ (b' = false → XW X cls d σ H))) → XW (X.tr pn xe) cls d σ H) →
      PassesOwn (model X.prog X.w) X.A X.env xe → ZSs (X.tr pn xe) body nx rt bk ct σ H) :
    ZS X (.Try body [.ExceptHandler (some (.Name x np)) (some n) (b₀ :: suite) pos', .ExceptHandler (some (.Name x2 np2)) (some n2) (b2 :: suite2) pos2] [] [] pos) nx rt bk ct σ H := by
  obtain ⟨rfl, rfl, rfl, rfl, rfl, rfl⟩ := hX
  obtain ⟨rfl, rfl⟩ := hN
  let t : Stmt → List Stmt → Addr → Value → Option Addr → TS := fun b₀ suite a cls d D σ H => ∀ (oe : Obj) (pn : List (Addr × Obj)), L2N.Zn cls d oe → (∃ vs, oe.data = .fields vs) → ZSs (X.suite a ((a, oe) :: pn)) (b₀ :: suite) D.nx D.rt D.bk D.ct σ H
  have ht : ∀ (b₀ : Stmt) (suite : List Stmt) (a : Addr) (oe : Obj) (cls : Value) (d : Option Addr) (pn : List (Addr × Obj)), L2N.Zn cls d oe → (∃ vs, oe.data = .fields vs) → PSs (X.suite a ((a, oe) :: pn)) (b₀ :: suite) (t b₀ suite a cls d) := fun b₀ suite a oe cls d pn hz hf => ⟨fun pins s σ H D I h => (h oe pn hz hf).run pins s I⟩
  refine (ps_try_manyA (tb := fun W D σ H => ∀ (pn : List (Addr × Obj)) (xe : Value → Shared → Prop), L2N.Takes (X.tr pn xe) W → PassesOwn (model X.prog X.w) X.A X.env xe → ZSs (X.tr pn xe) body D.nx D.rt D.bk D.ct σ H) hs hf S.nd takes_xw
    (fun W pn xe tk hp => ⟨fun pins s σ H D I h => (h pn xe tk hp).run pins s I⟩) (.cons hi hln ⟨hg, hdb, .inl gC⟩ (ht b₀ suite) (.cons hi2 hln2 ⟨hg2, hdb2, .inl gC2⟩ (ht b2 suite2) .nil))).w fun pn xe tk hp => h pn xe (fun cls d σ H hh => xw_of tk ?_) hp
  obtain ⟨b, h1, h2, h3⟩ := hh
  refine ⟨b, h1, fun hb a na oe pn hz hf => h2 hb a na oe pn hz hf, fun hb => ?_⟩
  obtain ⟨b', h1, h2, h3⟩ := h3 hb
  exact ⟨b', h1, fun hb a na oe pn hz hf => h2 hb a na oe pn hz hf, h3⟩
end L2

/-! A binary operator of an own class with an object of another own class, which has no such operator, on the right. -/
namespace L2
open PySem PySem.Spec PyProof.Rows
/-- the class has no such operator (its only ancestor is object) -/
structure NoOp (K : PySem.W.Frag) (C : Addr) (nm : String) : Prop where
  mro : ∃ cd, PySem.W.clsIn K C = some cd ∧ cd.mro = [.ref C, .type "object"]
  h1 : PySem.W.findIn K (.ref C) (PySem.dunder nm) = some none
  h2 : PySem.W.findIn K (.ref C) (PySem.dunderR nm) = some none
  h3 : PySem.W.findIn K (.type "object") (PySem.dunder nm) = some none
  h4 : PySem.W.findIn K (.type "object") (PySem.dunderR nm) = some none
theorem NoOp.looks {M : Model} {K : PySem.W.Frag} {C : Addr} {nm : String} {h : Heap} (X : K.In h) (n : NoOp K C nm) : PySem.W.Looks M h (fillsNumberSlot (.ref C) nm) false := by
  obtain ⟨⟨cd, hc, hm⟩, h1, h2, h3, h4⟩ := n
  intro A Q E s k q
  have Lm : PySem.W.Looks M h (mroOf (.ref C)) cd.mro := (PySem.W.looks_clsIn X hc).andThen (f := fun cd => pure cd.mro) .now
  have Lm' := Lm.keeps k
  obtain ⟨hh, g, d, tt, os⟩ := s
  have X' : K.In hh := X.keeps k
  have L1 : PySem.W.Looks M hh (typeLookup (.ref C) (PySem.dunder nm)) none := PySem.W.looks_findIn X' h1
  have L2 : PySem.W.Looks M hh (typeLookup (.ref C) (PySem.dunderR nm)) none := PySem.W.looks_findIn X' h2
  have L3 : PySem.W.Looks M hh (typeLookup (.type "object") (PySem.dunder nm)) none := PySem.W.looks_findIn X' h3
  have L4 : PySem.W.Looks M hh (typeLookup (.type "object") (PySem.dunderR nm)) none := PySem.W.looks_findIn X' h4
  unfold fillsNumberSlot
  refine wpAny_bind (Lm'.at ?_)
  rw [hm]
  simp only [List.anyM_cons, List.anyM_nil]
  repeat lk
  exact q
section
variable {prog : Program} {w : World} {A : Around} {E : Value → Shared → Prop} {s : Shared} {K : PySem.W.Frag} {x y C D f L : Addr} {h₀ : Heap} {m : Str → Option Value} {ox oy : Obj} {od oe : Option Obj}
theorem bin_own {op : Operator} {Q : Value → Shared → Prop} (X : K.In s.heap) (I : PySem.W.InstAt s.heap x ox C od) (J : PySem.W.InstAt s.heap y oy D oe) (hc : PySem.W.selfFirst K C = true) (hne : C ≠ D)
    (hs : PySem.W.findIn K (.ref C) (PySem.dunder op.info.2) = some (some (.ref f))) (hf : PySem.W.isFn K (.ref f) = true) (N : NoOp K D op.info.2)
    (h : wpAny (model prog w) A (call (.ref f) [.ref x, .ref y]) (PySem.W.CmpBack Q) E s) : wpAny (model prog w) A (binaryOp op (.ref x) (.ref y)) Q E s := by
  obtain ⟨cd, rest, hcd, hm⟩ := PySem.W.ksp_first hc
  rcases hi : op.info with ⟨sym, nm'⟩
  rw [hi] at hs N
  dsimp only at hs N
  have one := PySem.W.ksp_try X I hs hf h
  have L1 : PySem.W.Looks (model prog w) s.heap (typeOf (.ref x)) (.ref C) := I.type
  have L2 : PySem.W.Looks (model prog w) s.heap (typeOf (.ref y)) (.ref D) := J.type
  have L3 : PySem.W.Looks (model prog w) s.heap (fillsNumberSlot (.ref C) nm') true := PySem.W.fills_K X hcd hm hs
  have L4 : PySem.W.Looks (model prog w) s.heap (fillsNumberSlot (.ref D) nm') false := N.looks X
  have hn : (Value.ref C == Value.ref D) = false := Bool.eq_false_iff.mpr fun q => hne (by cases beq_iff_eq.mp q; rfl)
  obtain ⟨hh, g, d, tt, os⟩ := s
  simp only [binaryOp, hi]
  refine wpAny_holding (wpAny_bind ?_)
  unfold binaryOp1
  refine wpAny_bind (L1.at (wpAny_bind (L2.at (wpAny_bind (L3.at ?_)))))
  simp only [hn, Bool.false_eq_true, if_false]
  ksp_lk
  refine wpAny_mono one (fun r s' hr' => ?_) fun _ _ e => e
  obtain ⟨v, rfl, hq⟩ := hr'
  ksp_lk
  exact hq
end
/-- x op y -/
theorem ow_binX {X : Cx} {P : Program} {w : World} {K : PySem.W.Frag} {mg : Str → Option Value} {base : Heap} {A : Around} {σ : St} {H : Hp} {Q : VK} {a b C C' dx dy : Addr} {fs gs : List (Str × V)} {m : Str} {k j : Nat} {sp : Sp} {op : Operator} (bm : BinM op m) (cm : CalM P w K mg base k C m sp) (hc : PySem.W.selfFirst K C = true) (N : NoOp K C' op.info.2) (hne : C ≠ C') (hr : Room j A) (hk : k ≤ j) (hX : XIs X P w K mg base A) (ea : H a = some (.ins C dx fs)) (eb : H b = some (.ins C' dy gs))
    (h : sp [.ref a, .ref b] H Q fun cls d H' => XW X cls d σ H') : OpW X σ (binaryOp op) (.ref a) (.ref b) H Q := by
  obtain ⟨rfl, rfl, rfl, rfl, rfl, rfl⟩ := hX
  refine ⟨fun pins s v u I rx ry => ?_⟩
  cases (show v = Value.ref a from rx)
  cases (show u = Value.ref b from ry)
  obtain ⟨_, _, J⟩ := ins_inst I ea
  obtain ⟨_, _, J'⟩ := ins_inst I eb
  obtain ⟨f, h1, h2, h3⟩ := own_run (a := a) (y := .ref b) (v := .ref b) cm hr hk I rfl h
  exact bin_own I.kIn J J' hc hne (by rw [bm.ok]; exact h1) h2 N h3
end L2

/-! Defs with *args and keyword-only parameters. -/
namespace L2
open PySem PySem.Spec PyProof.Rows
/-- t looks the names up in the dict at D, one behind another, and goes on by r -/
def KwTo {α : Type} (D : Addr) : List (Str × Value) → Sem α → Sem α → Prop
  | [], t, r => t = r
  | q :: l, t, r => ∃ (β γ : Type) (k1 : Option Value → Sem β) (k2 : β → Sem γ) (k3 : γ → Sem α) (a : β), t = ((nsGet D q.1 >>= k1) >>= k2) >>= k3 ∧ k1 (some q.2) = pure a ∧ KwTo D l (k2 a >>= k3) r
theorem KwTo.run {α : Type} {K : PySem.W.Frag} {M : Model} {A : Around} {E : Value → Shared → Prop} {D : Addr} {s : Shared} {Q : α → Shared → Prop} (X : K.In s.heap) : ∀ {l : List (Str × Value)} {t r : Sem α}, (∀ q ∈ l, PySem.W.nsIn K D q.1 = some (some q.2)) → KwTo D l t r → wpAny M A r Q E s → wpAny M A t Q E s
  | [], t, r, _, e, h => by
    have e : t = r := e
    rw [e]; exact h
  | q :: l, t, r, hl, e, h => by
    obtain ⟨β, γ, k1, k2, k3, a, e1, e2, e3⟩ := e
    have l1 : PySem.W.Looks M s.heap (nsGet D q.1 >>= k1) a := (PySem.W.looks_nsIn X (hl q (List.mem_cons_self ..))).andThen (PySem.W.Looks.of_pure e2)
    rw [e1, bind_assoc]
    exact wpAny_bind (l1.here (KwTo.run X (fun p hp => hl p (List.mem_cons_of_mem _ hp)) e3 h))
/-- a def called with positional values and keywords named ks -/
def FnRK (P : Program) (w : World) (K : PySem.W.Frag) (mg : Str → Option Value) (base : Heap) (k : Nat) (f : Addr) (ks : List Str) (sp : List V → List V → Hp → VK → XK → Prop) : Prop :=
  ∀ (A : Around) (outer : List Env) (s : Shared) (H : Hp) (us ws : List Value) (vs zs : List V) (Q : VK) (E : XK), Room k A → Env0 P w K mg base A outer s H → Vals vs us → Vals zs ws → sp vs zs H Q E →
    codeAny (model P w) A (.call (.ref f) ⟨us, ks.zip ws⟩) (CR (L2N.CX P w) outer P w H s Q E) s
theorem FunSK.ok {P : Program} {w : World} {K : PySem.W.Frag} {mg : Str → Option Value} {base : Heap} {x qual : Str} {params : Arguments} {body : List Stmt} {scope : Scope} {kws : List (Str × V)} {f : Addr} {fd : FuncData} {N ps ks : List Str} {k : Nat} {sp : Sp} (F : FunD K x qual params body scope [] kws f fd) (S : FnScope N ps scope) (hk : kws ≠ [])
    (ms : List (Str × V)) (hms : ∀ q ∈ ms, q ∈ kws) (g : {α : Type} → List α → List α → List α) (hrel : ∀ {mz zs : List V} {mv ws : List Value}, Vals mz mv → Vals zs ws → Vals (g mz zs) (g mv ws)) (hlen : ∀ {mz zs : List V}, mz.length = ms.length → zs.length = ks.length → (g mz zs).length + 1 = ps.length)
    (hb : ∀ (D : Addr) (doc pm : Value) (an : Option Addr) (cdv ct : Value) (us mv ws : List Value), mv.length = ms.length → ws.length = ks.length →
      KwTo D ((ms.map (·.1)).zip mv) (bindArgs (PySem.W.fnOf x qual params body scope .none (.ref D) doc pm an cdv ct) ⟨us, ks.zip ws⟩) (newTuple us >>= fun t => pure (ps.zip (g mv ws ++ [t]))))
    (hbody : ∀ (cdv : Value) (A : Around) (outer : List Env) (s : Shared) (H : Hp) (vs : List V) (Q : VK) (E : XK), Room k (A.deeper (envOfC qual scope s.heap.objs.size f cdv)) → sp vs H Q E →
      ZSs (cxN P w K mg base N qual scope f cdv A outer s H E) body (fun _ H' => Q .non H') Q (fun _ _ => False) (fun _ _ => False) (start N vs) H) :
    FnRK P w K mg base (k + 1) f ks (fun vs zs H Q E => zs.length = ks.length ∧ vs.length ≤ sizeLine ∧ ∀ p, H p = none → sp (g (ms.map (·.2)) zs ++ [.ref p]) (upd H p (.tup vs)) Q E) := by
  obtain ⟨oc, od, dV, kV, doc, pm, an, cdv, ct, osl, rfl, lk, hcd, hD, hK⟩ := F.ex
  rcases hD with ⟨_, rfl⟩ | ⟨e, _⟩
  · rcases hK with e | ⟨D, rfl, hq⟩
    · exact absurd e hk
    · obtain ⟨mv, hl, rk, hks⟩ := kwd_vals (ms := ms) fun q hm => hq q (hms q hm)
      intro A outer s H us ws vs zs Q E hr e0 r rz hsp
      obtain ⟨lz, lv, hsp⟩ := hsp
      have hn : H s.heap.objs.size = none := e0.hok.fresh (Nat.le_refl _)
      have lu : us.length ≤ sizeLine := by rw [← r.length]; exact lv
      refine StX.run_bnd lk hcd S hr e0 (G := fun xs H2 => ∃ p, H p = none ∧ xs = g (ms.map (·.2)) zs ++ [V.ref p] ∧ H2 = upd H p (.tup vs)) (fun A' Ex Q' h => ?_) fun s2 H2 xs ⟨p, hp, ex, eH⟩ hr' => ?_
      · have KX : K.In s.heap := e0.mod.kin.keeps fun b o e => (e0.bs b o e).1
        refine KwTo.run KX hks (hb D doc pm an cdv ct us mv ws hl (rz.length.symm.trans lz)) ?_
        refine wpAny_bind (wpAny_newTuple (wpAny_pure ?_) lu)
        have new : ObjOk P w (upd H s.heap.objs.size (.tup vs)) (s.heap.push ({ cls := .type "tuple", data := .seq us.toArray } : Obj)) s.heap.objs.size (.tup vs) := ⟨lv, us, r, ⟨_, Heap.get?_push_size _ rfl, rfl, _, rfl⟩⟩
        have un := StX.un_laid (fs := frs outer) (s := s) (o := ({ cls := .type "tuple", data := .seq us.toArray } : Obj)) (u := .tup vs) hn
        exact h _ _ (g (ms.map (·.2)) zs ++ [V.ref s.heap.objs.size]) (g mv ws ++ [Value.ref s.heap.objs.size]) (StX.env0_laid e0 new) un rfl (fun e s' => cxUpN outer s H _ _ E e s' un (fun b o q => Heap.get?_push_of_some _ q) rfl) ((hrel rk rz).append (.cons rfl .nil))
          (by rw [List.length_append]; exact hlen (List.length_map ..) lz) ⟨_, hn, rfl, rfl⟩
      · subst ex eH
        exact ⟨_, pss_wss, hbody cdv A outer s2 _ _ Q E hr' (hsp p hp)⟩
  · exact absurd rfl e
/-- such a def as a name of the module -/
structure CalRK (P : Program) (w : World) (K : PySem.W.Frag) (mg : Str → Option Value) (base : Heap) (k : Nat) (x : Str) (ks : List Str) (sp : List V → List V → Hp → VK → XK → Prop) : Prop where
  ex : ∃ (f : Addr) (sp0 : List V → List V → Hp → VK → XK → Prop), FnRK P w K mg base k f ks sp0 ∧ mg x = some (.ref f) ∧ PySem.W.keepIn K (.ref f) = true ∧ ∀ vs zs H Q E, sp vs zs H Q E → sp0 vs zs H Q E
section
variable {X : Cx} {P : Program} {w : World} {K : PySem.W.Frag} {mg : Str → Option Value} {base : Heap} {A : Around} {x : Str} {ks : List Str} {k j : Nat} {sp : List V → List V → Hp → VK → XK → Prop} {e : Expr} {es : List Expr} {kws : List Keyword} {σ : St} {H : Hp} {Q : VK} {p pos : Pos}
theorem rkrun {f : Addr} {pins : List (Addr × Obj)} {s : Shared} {us ws : List Value} {vs zs : List V} (F : FnRK X.prog X.w X.K X.mg X.base k f ks sp) (hr : Room k X.A) (I : Inv X pins σ H s) (r : Vals vs us) (rz : Vals zs ws) (h : sp vs zs H Q fun cls d H' => XW X cls d σ H') : wpAny (model X.prog X.w) X.A (call (.ref f) us (ks.zip ws)) (EP X pins σ Q) X.xe s := by
  refine wpAny_call (codeAny_mono (F X.A X.stack s H us ws vs zs Q _ hr I.env0 r rz h) fun r s' hq => ?_)
  cases r with
  | error e => exact takes_xw e s' (L2N.XE.of_call I (fun cls d H' w => w) hq)
  | ok fl =>
    cases fl with
    | ret u => exact I.after hq
    | next => exact hq.elim
    | brk => exact hq.elim
    | cont => exact hq.elim
theorem s_callRK (c : CalRK P w K mg base k x ks sp) (hr : Room j A) (hk : k ≤ j) (hX : XIs X P w K mg base A)
    (h : ZA X (e :: es) σ H fun vs H1 => ZK X kws σ H1 fun zs H2 => sp vs zs H2 Q fun cls d H' => XW X cls d σ H') (hg : Gl X x)
    (hall : (backToKw pos (keywordEach kws X.env)).all (·.1.isSome) = true) (hks : (backToKw pos (keywordEach kws X.env)).filterMap (·.1) = ks) (hdb : (x == ("__debug__" : Str)) = false)
    (he : starEach (e :: es) X.env = (false, eval e X.env) :: starEach es X.env) (hpl : ((backTo pos (starEach (e :: es) X.env)).any (·.1) || (backToKw pos (keywordEach kws X.env)).any (·.1.isNone)) = false) : ZE X (.Call (.Name x p) (e :: es) kws pos) σ H Q := by
  obtain ⟨rfl, rfl, rfl, rfl, rfl, rfl⟩ := hX
  obtain ⟨f, sp0, F, gm, kp, im⟩ := c.ex
  refine ⟨fun pins s I => ?_⟩
  refine wpAny_Call_Name_kw (ld_glob I hg gm ?_ hdb)
  refine PySem.W.callWith_KW (h₀ := X.base) I.ok.mod.kin kp hall (thn (h.run pos pins s I) fun us s1 ⟨vs, H1, I1, r, q⟩ => ?_) hpl he
  refine thn (q.run pos pins s1 I1) fun ws s2 ⟨zs, H2, I2, rz, q2⟩ => ⟨I2.kIn, ?_⟩
  rw [hks]
  exact rkrun F (hr.mono hk) I2 r rz (im _ _ _ _ _ q2)
theorem s_callRK0 (c : CalRK P w K mg base k x ks sp) (hr : Room j A) (hk : k ≤ j) (hX : XIs X P w K mg base A)
    (h : ZK X kws σ H fun zs H2 => sp [] zs H2 Q fun cls d H' => XW X cls d σ H') (hg : Gl X x)
    (hall : (backToKw pos (keywordEach kws X.env)).all (·.1.isSome) = true) (hks : (backToKw pos (keywordEach kws X.env)).filterMap (·.1) = ks) (hdb : (x == ("__debug__" : Str)) = false)
    (hpl : ((backTo pos (starEach [] X.env)).any (·.1) || (backToKw pos (keywordEach kws X.env)).any (·.1.isNone)) = false) : ZE X (.Call (.Name x p) [] kws pos) σ H Q := by
  obtain ⟨rfl, rfl, rfl, rfl, rfl, rfl⟩ := hX
  obtain ⟨f, sp0, F, gm, kp, im⟩ := c.ex
  refine ⟨fun pins s I => ?_⟩
  refine wpAny_Call_Name_kw (ld_glob I hg gm ?_ hdb)
  refine PySem.W.callWith_KW0 (h₀ := X.base) I.ok.mod.kin kp hall (thn (h.run pos pins s I) fun ws s2 ⟨zs, H2, I2, rz, q2⟩ => ⟨I2.kIn, ?_⟩) hpl
  rw [hks]
  exact rkrun F (hr.mono hk) I2 .nil rz (im _ _ _ _ _ q2)
/-- x(e, ..) without keywords -/
theorem s_callR (c : CalRK P w K mg base k x [] sp) (hr : Room j A) (hk : k ≤ j) (hX : XIs X P w K mg base A) (h : ZA X (e :: es) σ H fun vs H1 => sp vs [] H1 Q fun cls d H' => XW X cls d σ H') (hg : Gl X x)
    (hdb : (x == ("__debug__" : Str)) = false) (he : starEach (e :: es) X.env = (false, eval e X.env) :: starEach es X.env) (hpl : (backTo pos (starEach es X.env)).any (·.1) = false) : ZE X (.Call (.Name x p) (e :: es) [] pos) σ H Q := by
  obtain ⟨rfl, rfl, rfl, rfl, rfl, rfl⟩ := hX
  obtain ⟨f, sp0, F, gm, kp, im⟩ := c.ex
  refine ⟨fun pins s I => ?_⟩
  refine wpAny_Call_Name_kw (ld_glob I hg gm ?_ hdb)
  refine PySem.W.callWith_K (h₀ := X.base) I.ok.mod.kin kp (thn (h.run pos pins s I) fun us s1 ⟨vs, H1, I1, r, q⟩ => ⟨I1.kIn, ?_⟩) he hpl
  exact rkrun (ws := []) F (hr.mono hk) I1 r .nil (im _ _ _ _ _ q)
theorem s_callR0 (c : CalRK P w K mg base k x [] sp) (hr : Room j A) (hk : k ≤ j) (hX : XIs X P w K mg base A) (h : sp [] [] H Q fun cls d H' => XW X cls d σ H') (hg : Gl X x)
    (hdb : (x == ("__debug__" : Str)) = false) : ZE X (.Call (.Name x p) [] [] pos) σ H Q := by
  obtain ⟨rfl, rfl, rfl, rfl, rfl, rfl⟩ := hX
  obtain ⟨f, sp0, F, gm, kp, im⟩ := c.ex
  refine ⟨fun pins s I => ?_⟩
  refine wpAny_Call_Name_kw (ld_glob I hg gm ?_ hdb)
  exact PySem.W.callWith_K0 I.kIn kp (rkrun (us := []) (ws := []) F (hr.mono hk) I .nil .nil (im _ _ _ _ _ h))
end
/-- try with three except clauses -/
theorem s_try3 {X : Cx} {P : Program} {w : World} {K : PySem.W.Frag} {mg : Str → Option Value} {base : Heap} {A : Around} {σ : St} {H : Hp} {x n x2 n2 x3 n3 : Str} {CL CL2 CL3 : Addr} {i i2 i3 : Nat} {body suite suite2 suite3 : List Stmt} {b₀ b2 b3 : Stmt} {np pos pos' np2 pos2 np3 pos3 : Pos} {N : List Str} {M : Nat} {sc : Scope} {nx bk ct : NX} {rt : VK} (gC : mg x = some (.ref CL)) (gC2 : mg x2 = some (.ref CL2)) (gC3 : mg x3 = some (.ref CL3)) (S : NOk N M sc) (hX : XIs X P w K mg base A) (hN : X.N = N ∧ X.env.scope = sc) (hi : N[i]? = some n) (hi2 : N[i2]? = some n2) (hi3 : N[i3]? = some n3)
    (hs : X.stack = X.env :: X.outer) (hf : X.env.frame = some X.env.locals) (hln : X.env.kindOf n = some .local) (hln2 : X.env.kindOf n2 = some .local) (hln3 : X.env.kindOf n3 = some .local) (hg : Gl X x) (hdb : (x == ("__debug__" : Str)) = false) (hg2 : Gl X x2) (hdb2 : (x2 == ("__debug__" : Str)) = false) (hg3 : Gl X x3) (hdb3 : (x3 == ("__debug__" : Str)) = false)
    (h : ∀ (pn : List (Addr × Obj)) (xe : Value → Shared → Prop), (∀ cls d σ H, (∃ b, PySem.W.exmOne K cls (.ref CL) = some b ∧ (b = true → SuW X b₀ suite i nx bk ct rt cls d σ H) ∧ (b = false → ∃ b', PySem.W.exmOne K cls (.ref CL2) = some b' ∧ (b' = true → SuW X b2 suite2 i2 nx bk ct rt cls d σ H) ∧ (b' = false → ∃ b'', PySem.W.exmOne K cls (.ref CL3) = some b'' ∧ (b'' = true → SuW X b3 suite3 i3 nx bk ct rt cls d σ H) ∧ (b'' = false → XW X cls d σ H)))) → XW (X.tr pn xe) cls d σ H) →
      PassesOwn (model X.prog X.w) X.A X.env xe → ZSs (X.tr pn xe) body nx rt bk ct σ H) :
    ZS X (.Try body [.ExceptHandler (some (.Name x np)) (some n) (b₀ :: suite) pos', .ExceptHandler (some (.Name x2 np2)) (some n2) (b2 :: suite2) pos2, .ExceptHandler (some (.Name x3 np3)) (some n3) (b3 :: suite3) pos3] [] [] pos) nx rt bk ct σ H := by
  obtain ⟨rfl, rfl, rfl, rfl, rfl, rfl⟩ := hX
  obtain ⟨rfl, rfl⟩ := hN
  let t : Stmt → List Stmt → Addr → Value → Option Addr → TS := fun b₀ suite a cls d D σ H => ∀ (oe : Obj) (pn : List (Addr × Obj)), L2N.Zn cls d oe → (∃ vs, oe.data = .fields vs) → ZSs (X.suite a ((a, oe) :: pn)) (b₀ :: suite) D.nx D.rt D.bk D.ct σ H
  have ht : ∀ (b₀ : Stmt) (suite : List Stmt) (a : Addr) (oe : Obj) (cls : Value) (d : Option Addr) (pn : List (Addr × Obj)), L2N.Zn cls d oe → (∃ vs, oe.data = .fields vs) → PSs (X.suite a ((a, oe) :: pn)) (b₀ :: suite) (t b₀ suite a cls d) := fun b₀ suite a oe cls d pn hz hf => ⟨fun pins s σ H D I h => (h oe pn hz hf).run pins s I⟩
  refine (ps_try_manyA (tb := fun W D σ H => ∀ (pn : List (Addr × Obj)) (xe : Value → Shared → Prop), L2N.Takes (X.tr pn xe) W → PassesOwn (model X.prog X.w) X.A X.env xe → ZSs (X.tr pn xe) body D.nx D.rt D.bk D.ct σ H) hs hf S.nd takes_xw
    (fun W pn xe tk hp => ⟨fun pins s σ H D I h => (h pn xe tk hp).run pins s I⟩) (.cons hi hln ⟨hg, hdb, .inl gC⟩ (ht b₀ suite) (.cons hi2 hln2 ⟨hg2, hdb2, .inl gC2⟩ (ht b2 suite2) (.cons hi3 hln3 ⟨hg3, hdb3, .inl gC3⟩ (ht b3 suite3) .nil)))).w fun pn xe tk hp => h pn xe (fun cls d σ H hh => xw_of tk ?_) hp
  obtain ⟨b, h1, h2, h3⟩ := hh
  refine ⟨b, h1, fun hb a na oe pn hz hf => h2 hb a na oe pn hz hf, fun hb => ?_⟩
  obtain ⟨b', h1, h2, h3⟩ := h3 hb
  refine ⟨b', h1, fun hb a na oe pn hz hf => h2 hb a na oe pn hz hf, fun hb => ?_⟩
  obtain ⟨b'', h1, h2, h3⟩ := h3 hb
  exact ⟨b'', h1, fun hb a na oe pn hz hf => h2 hb a na oe pn hz hf, h3⟩
end L2

/-! == of two lists by their items' own ==, either way. -/
namespace GQB
open PySem PySem.SeqAt
open AutoSeq1 (wpAny_loadPart')
open MeetsSeq MeetsSeq2 MeetsSeq3 SeqRoads2 GQ
section
variable {prog : Program} {w : World} {A : Around} {R : Result → Shared → Prop}
/-- at each turn the two lists are read anew: N items each; the i-th two are equal, or F -/
def ListB (prog : Program) (w : World) (A : Around) (E : Value → Shared → Prop) (l b : Addr) (N : Nat) (I : Nat → Shared → Prop) (F : Shared → Prop) : Prop :=
  ∀ i s, I i s → ∃ (items items2 : Array Value) (n n2 : Nat), s.heap.get? l = some { cls := .type "list", data := .seq items n } ∧ s.heap.get? b = some { cls := .type "list", data := .seq items2 n2 } ∧ items.size = N ∧ items2.size = N ∧
    ∀ (h1 : i < items.size) (h2 : i < items2.size), wpAny (model prog w) A.in1 (eqBool items[i] items2[i]) (fun r s' => if r = true then I (i + 1) s' else F s') E s
theorem eq_loopB (l b : Addr) (N : Nat) (I : Nat → Shared → Prop) (F : Shared → Prop) (hl : ListB prog w A (fun e s' => R (.error e) s') l b N I F)
    (fin : ∀ s, I N s → R (.ok (.ret (.bool true))) s) (fal : ∀ s, F s → (∃ (items items2 : Array Value) (n n2 : Nat), s.heap.get? l = some { cls := .type "list", data := .seq items n } ∧ s.heap.get? b = some { cls := .type "list", data := .seq items2 n2 } ∧ items.size = N ∧ items2.size = N) ∧ R (.ok (.ret (.bool false))) s) (k : Nat) :
    ∀ i : Nat, N - i = k → i ≤ N → ∀ s, I i s →
      wpAny (model prog w) A.in1 (Builtin.«list.__eq__.loop» ⟨[.ref l, .ref b, rawInt i, rawInt 2], []⟩) (FinOf prog w A R) (fun e s' => R (.error e) s') s := by
  induction k with
  | zero =>
    intro i hk hi s h
    obtain ⟨items, items2, n, n2, hl1, hb1, hs1, hs2, _⟩ := hl _ _ h
    have hi' : i = N := by omega
    have hR : R (.ok (.ret (.bool true))) s := fin s (hi' ▸ h)
    obtain ⟨hp, g, d, tk, os⟩ := s
    wp_walk using wpAny_loadPart' hl1, wpAny_loadPart' hb1
    have hi1 : items[((i : Nat) : Int).toNat]? = none := by simp; omega
    have hi2 : items2[((i : Nat) : Int).toNat]? = none := by simp; omega
    rw [hi1, hi2]
    wp_walk using wpAny_loadPart' hl1, wpAny_loadPart' hb1
    show R (.ok (.ret (.bool (items.size == items2.size)))) _
    rw [hs1, hs2]
    simpa using hR
  | succ k ih =>
    intro i hk hi s h
    obtain ⟨items, items2, n, n2, hl1, hb1, hs1, hs2, turn⟩ := hl _ _ h
    have hlt : i < items.size := by omega
    have hlt2 : i < items2.size := by omega
    have ht := turn hlt hlt2
    obtain ⟨hp, g, d, tk, os⟩ := s
    wp_walk using wpAny_loadPart' hl1, wpAny_loadPart' hb1
    have hi1 : items[((i : Nat) : Int).toNat]? = some items[i] := by simp [hlt]
    have hi2 : items2[((i : Nat) : Int).toNat]? = some items2[i] := by simp [hlt2]
    have hc : ((i : Int) + 1) = ((i + 1 : Nat) : Int) := by omega
    rw [hi1, hi2]
    refine wpAny_bind (wpAny_mono ht (fun r s2 h2 => ?_) fun _ _ x => x)
    cases r with
    | true =>
      have h2 : I (i + 1) s2 := h2
      have hrec := ih (i + 1) (by omega) (by omega) s2 h2
      obtain ⟨hp2, g2, d2, tk2, os2⟩ := s2
      wp_walk
      rw [hc]
      exact ⟨plainId_quiet plain_eq_loop _, codeAny_builtin entry_eq_loop (by
        rw [Around.under_plainId plain_eq_loop _]
        exact hrec)⟩
    | false =>
      have h2 : F s2 := h2
      obtain ⟨⟨js, js2, m, m2, hl2, hb2, hs3, hs4⟩, hR⟩ := fal s2 h2
      obtain ⟨hp2, g2, d2, tk2, os2⟩ := s2
      have hj1 : js[((i : Nat) : Int).toNat]? = some (js[i]'(by omega)) := by simp [show i < js.size by omega]
      have hj2 : js2[((i : Nat) : Int).toNat]? = some (js2[i]'(by omega)) := by simp [show i < js2.size by omega]
      wp_walk using wpAny_loadPart' hl2, wpAny_loadPart' hb2
      rw [hj1, hj2]
      exact wpAny_pure hR
theorem list_eqB (l b : Addr) (N : Nat) (I : Nat → Shared → Prop) (F : Shared → Prop) (hl : ListB prog w A (fun e s' => R (.error e) s') l b N I F)
    (fin : ∀ s, I N s → R (.ok (.ret (.bool true))) s) (fal : ∀ s, F s → (∃ (items items2 : Array Value) (n n2 : Nat), s.heap.get? l = some { cls := .type "list", data := .seq items n } ∧ s.heap.get? b = some { cls := .type "list", data := .seq items2 n2 } ∧ items.size = N ∧ items2.size = N) ∧ R (.ok (.ret (.bool false))) s) {s : Shared} (h : I 0 s) :
    wpAny (model prog w) A.in1 (Builtin.«list.__eq__» ⟨[.ref l, .ref b], []⟩) (FinOf prog w A R) (fun e s' => R (.error e) s') s := by
  obtain ⟨items, items2, n, n2, hl1, hb1, hs1, hs2, _⟩ := hl _ _ h
  have hrec := eq_loopB (A := A) (R := R) l b N I F hl fin fal _ 0 rfl (Nat.zero_le _) s h
  obtain ⟨hp, g, d, tk, os⟩ := s
  have f3 := AutoSeq1.sub_list_list
  have hne : ¬ (items.size != items2.size) = true := by simp [hs1, hs2]
  wp_walk using wpAny_loadPart' hl1, wpAny_loadPart' hb1
  exact ⟨plainId_quiet plain_eq_loop _, codeAny_builtin entry_eq_loop (by
    rw [Around.under_plainId plain_eq_loop _]
    exact hrec)⟩
theorem list_neB (l b : Addr) {items items2 : Array Value} {n n2 : Nat} {s : Shared} (hl1 : s.heap.get? l = some { cls := .type "list", data := .seq items n }) (hb1 : s.heap.get? b = some { cls := .type "list", data := .seq items2 n2 }) (hs : items.size ≠ items2.size) (hR : R (.ok (.ret (.bool false))) s) :
    wpAny (model prog w) A.in1 (Builtin.«list.__eq__» ⟨[.ref l, .ref b], []⟩) (FinOf prog w A R) (fun e s' => R (.error e) s') s := by
  obtain ⟨hp, g, d, tk, os⟩ := s
  have f3 := AutoSeq1.sub_list_list
  have hne : (items.size != items2.size) = true := by simp [hs]
  wp_walk using wpAny_loadPart' hl1, wpAny_loadPart' hb1
  exact hR
theorem rc_listB {E : Value → Shared → Prop} {s : Shared} {l b : Addr} {N : Nat} {Q : Value → Shared → Prop} (hu : A.units < cLine) (I : Nat → Shared → Prop) (F : Shared → Prop) (hl : ListB prog w A E l b N I F)
    (fin : ∀ s, I N s → Q (.bool true) s) (fal : ∀ s, F s → (∃ (items items2 : Array Value) (n n2 : Nat), s.heap.get? l = some { cls := .type "list", data := .seq items n } ∧ s.heap.get? b = some { cls := .type "list", data := .seq items2 n2 } ∧ items.size = N ∧ items2.size = N) ∧ Q (.bool false) s) (h : I 0 s) : wpAny (model prog w) A (richCompare .Eq (.ref l) (.ref b)) Q E s := by
  obtain ⟨items, items2, n, n2, hl1, hb1, _, _, _⟩ := hl _ _ h
  refine wpAny_richCompare_same_room (op := .Eq) ⟨_, hl1, rfl⟩ ⟨_, hb1, rfl⟩ PySem.F.slot_list_eq (call_here PySem.F.slot_list_eq ⟨_, hl1, rfl⟩ PySem.F.entry_list_eq (PySem.F.args_list_eq_2 _ _) ?_) hu
  exact list_eqB (R := wants (fun v s' => v ≠ .notImplemented ∧ Q v s') E) l b N I F hl (fun s' q => ⟨(fun x => nomatch x), fin s' q⟩) (fun s' q => ⟨(fal s' q).1, (fun x => nomatch x), (fal s' q).2⟩) h
theorem rc_listN {E : Value → Shared → Prop} {s : Shared} {l b : Addr} {items items2 : Array Value} {n n2 : Nat} {Q : Value → Shared → Prop} (hu : A.units < cLine) (hl1 : s.heap.get? l = some { cls := .type "list", data := .seq items n }) (hb1 : s.heap.get? b = some { cls := .type "list", data := .seq items2 n2 }) (hs : items.size ≠ items2.size) (hQ : Q (.bool false) s) : wpAny (model prog w) A (richCompare .Eq (.ref l) (.ref b)) Q E s := by
  refine wpAny_richCompare_same_room (op := .Eq) ⟨_, hl1, rfl⟩ ⟨_, hb1, rfl⟩ PySem.F.slot_list_eq (call_here PySem.F.slot_list_eq ⟨_, hl1, rfl⟩ PySem.F.entry_list_eq (PySem.F.args_list_eq_2 _ _) ?_) hu
  exact list_neB (R := wants (fun v s' => v ≠ .notImplemented ∧ Q v s') E) l b hl1 hb1 hs ⟨(fun x => nomatch x), hQ⟩
end
end GQB
namespace L2
open PySem PySem.Spec PyProof.Rows
section
variable {X : Cx} {P : Program} {w : World} {K : PySem.W.Frag} {mg : Str → Option Value} {base : Heap} {A : Around} {σ : St} {H : Hp} {Q : VK} {a b C dx dy : Addr} {fs gs : List (Str × V)} {k j : Nat} {sp : Sp} {ps qs : List Addr} {e : Nat → Bool}
/-- two lists of as many objects of one own class, by its own == -/
theorem ow_eqLO (cm : CalM P w K mg base k C "__eq__" sp) (hr : Room j A) (hk : k + 1 ≤ j) (hX : XIs X P w K mg base A) (ha : H a = some (.lst (ps.map V.ref))) (hb : H b = some (.lst (qs.map V.ref))) (hn : ps.length = qs.length)
    (hi : ∀ i p q, ps[i]? = some p → qs[i]? = some q → (∃ dx fs, H p = some (.ins C dx fs)) ∧ (∃ dy gs, H q = some (.ins C dy gs)) ∧ (p = q → e i = true) ∧ (p ≠ q → sp [.ref p, .ref q] H (fun v H' => v = .bl (e i) ∧ H' = H) fun _ _ _ => False))
    (h1 : (∀ i, i < ps.length → e i = true) → Q (.bl true) H) (h2 : ∀ i, i < ps.length → e i = false → Q (.bl false) H) : OpW X σ (compareOp .Eq) (.ref a) (.ref b) H Q := by
  obtain ⟨rfl, rfl, rfl, rfl, rfl, rfl⟩ := hX
  refine ⟨fun pins s v u I rx ry => ?_⟩
  cases (show v = Value.ref a from rx)
  cases (show u = Value.ref b from ry)
  have hu : X.A.in1.units < cLine := by have := hr.un; show X.A.units + 1 < cLine; omega
  have lists : ∀ s' : Shared, Inv X pins σ H s' → ∃ (its its2 : List Value) (n n2 : Nat), s'.heap.get? a = some { cls := .type "list", data := .seq its.toArray n } ∧ s'.heap.get? b = some { cls := .type "list", data := .seq its2.toArray n2 } ∧ Vals (ps.map V.ref) its ∧ Vals (qs.map V.ref) its2 := fun s' I' => by
    obtain ⟨z, its, n, r, e1⟩ := I'.hok a _ ha
    obtain ⟨z2, its2, n2, r2, e2⟩ := I'.hok b _ hb
    exact ⟨its, its2, n, n2, e1, e2, r, r2⟩
  refine GQB.rc_listB (N := ps.length) hr.units0 (fun i s' => Inv X pins σ H s' ∧ ∀ m, m < i → e m = true) (fun s' => Inv X pins σ H s' ∧ ∃ m, m < ps.length ∧ e m = false) (fun i s' q => ?_) (fun s' q => ?_) (fun s' q => ?_) ⟨I, fun m z => absurd z (Nat.not_lt_zero _)⟩
  · obtain ⟨I', hp⟩ := q
    obtain ⟨its, its2, n, n2, e1, e2, r, r2⟩ := lists s' I'
    have l1 : its.length = ps.length := by rw [← r.length, List.length_map]
    have l2 : its2.length = ps.length := by rw [← r2.length, List.length_map, hn]
    refine ⟨its.toArray, its2.toArray, n, n2, e1, e2, by simpa using l1, by simpa using l2, fun z1 z2 => ?_⟩
    have z1' : i < its.length := by simpa using z1
    have z2' : i < its2.length := by simpa using z2
    have g1 : ps[i]? = some ps[i] := List.getElem?_eq_getElem (by omega)
    have g2 : qs[i]? = some qs[i] := List.getElem?_eq_getElem (by omega)
    obtain ⟨u1, hu1, ru1⟩ := r.get (show (ps.map V.ref)[i]? = some (V.ref ps[i]) by rw [List.getElem?_map, g1]; rfl)
    obtain ⟨u2, hu2, ru2⟩ := r2.get (show (qs.map V.ref)[i]? = some (V.ref qs[i]) by rw [List.getElem?_map, g2]; rfl)
    have w1 : its.toArray[i] = Value.ref ps[i] := by
      have : its[i]? = some its.toArray[i] := by rw [List.getElem?_eq_getElem z1'] <;> simp
      rw [this] at hu1
      rw [Option.some.inj hu1]
      exact ru1
    have w2 : its2.toArray[i] = Value.ref qs[i] := by
      have : its2[i]? = some its2.toArray[i] := by rw [List.getElem?_eq_getElem z2'] <;> simp
      rw [this] at hu2
      rw [Option.some.inj hu2]
      exact ru2
    rw [w1, w2]
    obtain ⟨⟨dx, fs, hpx⟩, ⟨dy, gs, hqx⟩, same, other⟩ := hi i _ _ g1 g2
    by_cases hab : ps[i] = qs[i]
    · rw [← hab]
      refine SeqAt.EqAt.same (A := X.A.in1) (s := s') (.ref ps[i]) X.prog X.w X.xe _ ?_
      rw [if_pos rfl]
      refine ⟨I', fun m hm => ?_⟩
      rcases Nat.lt_or_ge m i with z | z
      · exact hp m z
      · obtain rfl : m = i := by omega
        exact same hab
    · refine GQ.eqBool_refG hab ?_
      obtain ⟨_, _, J⟩ := ins_inst I' hpx
      obtain ⟨_, _, J'⟩ := ins_inst I' hqx
      obtain ⟨mm, hF⟩ := I'.fr
      obtain ⟨f, f1, f2, f3⟩ := zrun1 (E' := X.xe) (σ := σ) cm hr hk I' (.cons (show RelV (.ref ps[i]) (.ref ps[i]) from rfl) (.cons (show RelV (.ref qs[i]) (.ref qs[i]) from rfl) .nil)) (other hab)
      refine PySem.W.cmp_K (op := .Eq) (tb := .ref C) hu hF I'.ok.mod.kin J J'.type notFirst_self f1 f2 (wpAny_mono f3 (fun r s2 q => ?_) fun _ _ x => x)
      obtain ⟨z, H', I2, rz, rfl, rfl⟩ := q
      refine SlX.cmpback rz ⟨e i, rz, ?_⟩
      cases he : e i with
      | false => rw [if_neg (by simp)]; exact ⟨I2, i, by omega, he⟩
      | true =>
        rw [if_pos rfl]
        refine ⟨I2, fun m hm => ?_⟩
        rcases Nat.lt_or_ge m i with z | z
        · exact hp m z
        · obtain rfl : m = i := by omega
          exact he
  · exact ⟨.bl true, H, q.1, rfl, h1 q.2⟩
  · obtain ⟨I', m, hm, he⟩ := q
    obtain ⟨its, its2, n, n2, e1, e2, r, r2⟩ := lists s' I'
    exact ⟨⟨its.toArray, its2.toArray, n, n2, e1, e2, by rw [List.size_toArray, ← r.length, List.length_map], by rw [List.size_toArray, ← r2.length, List.length_map, hn]⟩, .bl false, H, I', rfl, h2 m hm he⟩
/-- two lists of unlike lengths -/
theorem ow_neLO {xs ys : List V} (hr : Room j A) (hX : XIs X P w K mg base A) (ha : H a = some (.lst xs)) (hb : H b = some (.lst ys)) (hn : xs.length ≠ ys.length) (h : Q (.bl false) H) : OpW X σ (compareOp .Eq) (.ref a) (.ref b) H Q := by
  obtain ⟨rfl, rfl, rfl, rfl, rfl, rfl⟩ := hX
  refine ⟨fun pins s v u I rx ry => ?_⟩
  cases (show v = Value.ref a from rx)
  cases (show u = Value.ref b from ry)
  obtain ⟨z, its, n, r, e1⟩ := I.hok a _ ha
  obtain ⟨z2, its2, n2, r2, e2⟩ := I.hok b _ hb
  exact GQB.rc_listN hr.units0 e1 e2 (by rw [List.size_toArray, List.size_toArray, ← r.length, ← r2.length]; exact hn) ⟨.bl false, H, I, rfl, h⟩
end
end L2

/-! zip of a tuple and a list; a list times a count; a dict that the top has written. -/
namespace RZB
open PySem PySem.Spec PyProof.Rows L2 RZ
open PySem.Sem (wp)
/-- an iterator at a thing that gives v next: before it Pb, behind it Pa -/
structure Gives (prog : Program) (w : World) (it th : Addr) (v : Value) (Pb Pa : Heap → Prop) : Prop where
  stayB : ∀ {h h' : Heap}, Pb h → (∀ o, h.get? it = some o → h'.get? it = some o) → (∀ o, h.get? th = some o → h'.get? th = some o) → Pb h'
  stayA : ∀ {h h' : Heap}, Pa h → (∀ o, h.get? it = some o → h'.get? it = some o) → Pa h'
  lt : ∀ {h : Heap}, Pa h → it < h.objs.size
  run : ∀ {A : Around} {E : Value → Shared → Prop} {s : Shared} {R : Value → Shared → Prop}, Pb s.heap → (∀ h', Pa h' → Heap.SameBut it s.heap h' → R v { s with heap := h' }) → wpAny (model prog w) A (Builtin.SmallTypes.nextOf (.ref it)) R E s
section
variable {prog : Program} {w : World} {A : Around} {E : Value → Shared → Prop}
theorem tupAt {h h' : Heap} {l : Addr} {xs : Array Value} (t : h.IsTuple l xs) (e : ∀ o, h.get? l = some o → h'.get? l = some o) : h'.IsTuple l xs := by
  obtain ⟨o, q, r⟩ := t
  exact ⟨o, e _ q, r⟩
theorem lstAt {h h' : Heap} {l : Addr} {xs : Array Value} (t : h.IsList l xs) (e : ∀ o, h.get? l = some o → h'.get? l = some o) : h'.IsList l xs := by
  obtain ⟨o, q, r⟩ := t
  exact ⟨o, e _ q, r⟩
theorem gives_tup {it l : Addr} {k : Nat} {xs : Array Value} {v : Value} (hv : xs[k]? = some v) : Gives prog w it l v (fun h => h.IsTupleIter it l k ∧ h.IsTuple l xs) (fun h => h.IsTupleIter it l (k + 1)) where
  stayB := fun p e1 e2 => ⟨p.1.at e1, tupAt p.2 e2⟩
  stayA := fun p e => p.at e
  lt := fun p => by obtain ⟨_, e, _⟩ := p; exact Heap.lt_size e
  run := fun p q => nextOf_tuple_item p.1 p.2 hv q
theorem gives_lst {it l : Addr} {k : Nat} {xs : Array Value} {v : Value} (hv : xs[k]? = some v) : Gives prog w it l v (fun h => h.IsListIter it l k ∧ h.IsList l xs) (fun h => h.IsListIter it l (k + 1)) where
  stayB := fun p e1 e2 => ⟨p.1.at e1, lstAt p.2 e2⟩
  stayA := fun p e => p.at e
  lt := fun p => by obtain ⟨_, e, _⟩ := p; exact Heap.lt_size e
  run := fun p q => wpAny_nextOf_list_item p.1 p.2 hv q
variable {s : Shared} {z U V J1 J2 t1 t2 : Addr} {x y a b : Value}
theorem zipG_item {R : Value → Shared → Prop} {B1 A1 B2 A2 : Heap → Prop} (D : ZipApart z U V J1 J2 t1 t2) (S1 : Gives prog w J1 t1 x B1 A1) (S2 : Gives prog w J2 t2 y B2 A2)
    (zz : IsZip s.heap z U V .none) (uu : IsPair s.heap U (.ref J1) (.ref J2)) (vv : IsPair s.heap V a b) (b1 : B1 s.heap) (b2 : B2 s.heap)
    (fin : ∀ h', IsZip h' z U V (rawInt s.heap.objs.size) → IsPair h' V x y → A1 h' → A2 h' → IsPair h' s.heap.objs.size x y → h'.objs.size = s.heap.objs.size + 1 →
      (∀ c o, c ≠ z → c ≠ V → c ≠ J1 → c ≠ J2 → s.heap.get? c = some o → h'.get? c = some o) → R (.ref s.heap.objs.size) { s with heap := h' }) :
    wpAny (model prog w) A (Builtin.«zip.__next__» ⟨[.ref z], []⟩) (fun f s' => ∃ v, f = .done (.ret v) ∧ R v s') E s := by
  refine wpAny_bind (m := field (.ref z) 2) (wpAny_field zz rfl (x := .bool false) rfl ?_)
  refine wpAny_bind (m := field (.ref z) 3) (wpAny_field zz rfl (x := .ref U) rfl (wpAny_bind (wpAny_seqItems uu rfl ?_)))
  refine wpAny_bind (m := Builtin.SmallTypes.ownedTupleIsFree (.ref z)) ?_
  unfold Builtin.SmallTypes.ownedTupleIsFree
  refine wpAny_bind (wpAny_field zz rfl (x := .none) rfl (wpAny_pure ?_))
  rw [if_pos rfl]
  refine wpAny_bind (wpAny_rule (wpAny_bind (wpAny_field zz rfl (x := .ref V) rfl (wpAny_bind (wpAny_setField_rec zz (by simp) fun g1 z1 w1 => wpAny_bind ?_)))))
  replace z1 : IsZip g1 z U V .ellipsis := z1
  have k1 : ∀ c o, c ≠ z → s.heap.get? c = some o → g1.get? c = some o := fun c o n e => w1.extBut _ _ n e
  simp only [List.zipIdx_cons, List.zipIdx_nil, List.forIn_cons, List.forIn_nil]
  refine wpAny_bind (wpAny_bind (wpAny_onRaise (wpAny_bind (m := Builtin.SmallTypes.nextOf (.ref J1)) ?_)))
  refine S1.run (S1.stayB b1 (fun o e => k1 _ o D.i1z e) fun o e => k1 _ o D.l1z e) fun g2 a2 w2 => wpAny_pure ?_
  have k2 : ∀ c o, c ≠ z → c ≠ J1 → s.heap.get? c = some o → g2.get? c = some o := fun c o n m e => w2.extBut _ _ m (k1 c o n e)
  refine wpAny_bind (wpAny_seqItems (k2 _ _ D.TOz D.TOi1 vv) rfl (wpAny_bind (wpAny_updateSeq_pair (k2 _ _ D.TOz D.TOi1 vv) fun g3 v3 w3 => wpAny_bind (wpAny_letGo (wpAny_pure ?_)))))
  replace v3 : IsPair g3 V x b := v3
  have k3 : ∀ c o, c ≠ z → c ≠ J1 → c ≠ V → s.heap.get? c = some o → g3.get? c = some o := fun c o n m p e => w3.extBut _ _ p (k2 c o n m e)
  refine wpAny_bind (wpAny_bind (wpAny_onRaise (wpAny_bind (m := Builtin.SmallTypes.nextOf (.ref J2)) ?_)))
  refine S2.run (S2.stayB b2 (fun o e => k3 _ o D.i2z D.i12.symm D.TOi2.symm e) fun o e => k3 _ o D.l2z D.l2i1 D.l2TO e) fun g4 a4 w4 => wpAny_pure ?_
  have v4 : IsPair g4 V x b := w4.extBut _ _ D.TOi2 v3
  refine wpAny_bind (wpAny_seqItems v4 rfl (wpAny_bind (wpAny_updateSeq_pair v4 fun g5 v5 w5 => wpAny_bind (wpAny_letGo (wpAny_pure (wpAny_pure ?_))))))
  replace v5 : IsPair g5 V x y := v5
  have k5 : ∀ c o, c ≠ z → c ≠ V → c ≠ J1 → c ≠ J2 → s.heap.get? c = some o → g5.get? c = some o := fun c o n m p q e => w5.extBut _ _ m (w4.extBut _ _ q (k3 c o n p m e))
  have z5 : IsZip g5 z U V .ellipsis := w5.extBut _ _ D.TOz.symm (w4.extBut _ _ D.i2z.symm (w3.extBut _ _ D.TOz.symm (w2.extBut _ _ D.i1z.symm z1)))
  have e5 : g5.objs.size = s.heap.objs.size := by rw [w5.1, w4.1, w3.1, w2.1, w1.1]
  have p1 : A1 g5 := S1.stayA a2 fun o e => w5.extBut _ _ D.TOi1.symm (w4.extBut _ _ D.i12 (w3.extBut _ _ D.TOi1.symm e))
  have p2 : A2 g5 := S2.stayA a4 fun o e => w5.extBut _ _ D.TOi2.symm e
  refine wpAny_bind (wpAny_seqItems v5 rfl (wpAny_bind (wpAny_newTuple (wpAny_bind (m := Builtin.SmallTypes.ownedTupleHandOut (.ref z) (.ref g5.objs.size)) ?_))))
  unfold Builtin.SmallTypes.ownedTupleHandOut
  have zl : z < g5.objs.size := Heap.lt_size z5
  have z6 : IsZip (g5.push { cls := .type "tuple", data := .seq #[x, y] }) z U V .ellipsis := Heap.get?_push_of_some _ z5
  refine wpAny_bind (wpAny_setField_rec z6 (by simp) fun g7 z7 w7 => ?_)
  replace z7 : IsZip g7 z U V (rawInt g5.objs.size) := z7
  refine wpAny_setField_rec z7 (by simp) fun g8 z8 w8 => wpAny_pure ⟨_, rfl, ?_⟩
  replace z8 : IsZip g8 z U V (rawInt g5.objs.size) := z8
  have up : ∀ c o, c ≠ z → g5.get? c = some o → g8.get? c = some o := fun c o n e => w8.extBut _ _ n (w7.extBut _ _ n (Heap.get?_push_of_some _ e))
  have t8 : IsPair g8 g5.objs.size x y := w8.extBut _ _ (Nat.ne_of_gt zl) (w7.extBut _ _ (Nat.ne_of_gt zl) (Heap.get?_push_size _ rfl))
  have e8 : g8.objs.size = g5.objs.size + 1 := by rw [w8.1, w7.1, Heap.size_push]
  rw [e5] at z8 t8 e8
  show R (.ref g5.objs.size) _
  rw [e5]
  exact fin g8 z8 (up _ _ D.TOz v5) (S1.stayA p1 fun o e => up _ o D.i1z e) (S2.stayA p2 fun o e => up _ o D.i2z e) t8 e8 fun c o n m p q e => up c o n (k5 c o n m p q e)
/-- the first one, a tuple, has no more -/
theorem zipG_end {R : Fin → Shared → Prop} {k : Nat} {xs : Array Value} (hh : A.handled = none) (D : ZipApart z U V J1 J2 t1 t2) (zz : IsZip s.heap z U V .none) (uu : IsPair s.heap U (.ref J1) (.ref J2))
    (b1 : s.heap.IsTupleIter J1 t1 k) (c1 : s.heap.IsTuple t1 xs) (hx : xs[k]? = none)
    (fin : ∀ h' e, (∀ c o, c ≠ z → c ≠ J1 → s.heap.get? c = some o → h'.get? c = some o) → (∃ o, h'.get? e = some o ∧ o.cls = .type "StopIteration") → E (.ref e) { s with heap := h' }) :
    wpAny (model prog w) A (Builtin.«zip.__next__» ⟨[.ref z], []⟩) R E s := by
  refine wpAny_bind (m := field (.ref z) 2) (wpAny_field zz rfl (x := .bool false) rfl ?_)
  refine wpAny_bind (m := field (.ref z) 3) (wpAny_field zz rfl (x := .ref U) rfl (wpAny_bind (wpAny_seqItems uu rfl ?_)))
  refine wpAny_bind (m := Builtin.SmallTypes.ownedTupleIsFree (.ref z)) ?_
  unfold Builtin.SmallTypes.ownedTupleIsFree
  refine wpAny_bind (wpAny_field zz rfl (x := .none) rfl (wpAny_pure ?_))
  rw [if_pos rfl]
  refine wpAny_bind (wpAny_rule (wpAny_bind (wpAny_field zz rfl (x := .ref V) rfl (wpAny_bind (wpAny_setField_rec zz (by simp) fun g1 z1 w1 => wpAny_bind ?_)))))
  replace z1 : IsZip g1 z U V .ellipsis := z1
  have k1 : ∀ c o, c ≠ z → s.heap.get? c = some o → g1.get? c = some o := fun c o n e => w1.extBut _ _ n e
  simp only [List.zipIdx_cons, List.zipIdx_nil, List.forIn_cons, List.forIn_nil]
  refine wpAny_bind (wpAny_bind (wpAny_onRaise (wpAny_bind (m := Builtin.SmallTypes.nextOf (.ref J1)) ?_)))
  refine nextOf_tuple_end hh (b1.at fun o e => k1 _ o D.i1z e) (tupAt c1 fun o e => k1 _ o D.l1z e) hx fun g2 e w2 he => ?_
  obtain ⟨oe, eg, ec⟩ := he
  have z2 : IsZip g2 z U V .ellipsis := w2 _ _ D.i1z.symm z1
  have ne : e ≠ z := fun q => by rw [q, z2] at eg; cases eg; simp at ec
  refine wpAny_setField_rec z2 (by simp) fun g3 _ w3 => fin g3 e (fun c o n m q => w3.extBut _ _ n (w2 _ _ m (k1 c o n q))) ⟨oe, w3.extBut _ _ ne eg, ec⟩
theorem nextG_item {R : Option Value → Shared → Prop} {B1 A1 B2 A2 : Heap → Prop} (D : ZipApart z U V J1 J2 t1 t2) (S1 : Gives prog w J1 t1 x B1 A1) (S2 : Gives prog w J2 t2 y B2 A2)
    (zz : IsZip s.heap z U V .none) (uu : IsPair s.heap U (.ref J1) (.ref J2)) (vv : IsPair s.heap V a b) (b1 : B1 s.heap) (b2 : B2 s.heap)
    (fin : ∀ h', IsZip h' z U V (rawInt s.heap.objs.size) → IsPair h' V x y → A1 h' → A2 h' → IsPair h' s.heap.objs.size x y → h'.objs.size = s.heap.objs.size + 1 →
      (∀ c o, c ≠ z → c ≠ V → c ≠ J1 → c ≠ J2 → s.heap.get? c = some o → h'.get? c = some o) → R (some (.ref s.heap.objs.size)) { s with heap := h' }) : wpAny (model prog w) A (pyNext (.ref z)) R E s := by
  have hT : s.TypeIs (.ref z) "zip" := ⟨_, zz, rfl⟩
  unfold pyNext
  exact wpAny_bind (wpAny_attempt (wpAny_callSpecial?_slot (name := Str.ofString "__next__") hT F.slot_zip_next (wpAny_call_entry F.slot_zip_next hT F.entry_zip_next
    (zipG_item D S1 S2 zz uu vv b1 b2 fun h' q1 q2 q3 q4 q5 q6 q7 => wpAny_pure (fin h' q1 q2 q3 q4 q5 q6 q7)) (F.args_zip_next_1 _))))
theorem nextG_end {R : Option Value → Shared → Prop} {k : Nat} {xs : Array Value} (hh : A.handled = none) (D : ZipApart z U V J1 J2 t1 t2) (zz : IsZip s.heap z U V .none) (uu : IsPair s.heap U (.ref J1) (.ref J2))
    (b1 : s.heap.IsTupleIter J1 t1 k) (c1 : s.heap.IsTuple t1 xs) (hx : xs[k]? = none) (fin : ∀ h', (∀ c o, c ≠ z → c ≠ J1 → s.heap.get? c = some o → h'.get? c = some o) → R none { s with heap := h' }) :
    wpAny (model prog w) A (pyNext (.ref z)) R E s := by
  have hT : s.TypeIs (.ref z) "zip" := ⟨_, zz, rfl⟩
  unfold pyNext
  refine wpAny_bind (wpAny_attempt (wpAny_callSpecial?_slot (name := Str.ofString "__next__") hT F.slot_zip_next (wpAny_call_entry F.slot_zip_next hT F.entry_zip_next (zipG_end hh D zz uu b1 c1 hx fun h' e q1 q2 => ?_) (F.args_zip_next_1 _))))
  obtain ⟨o, q3, q4⟩ := q2
  exact wpAny_bind (wpAny_isInstance (T := "StopIteration") (b := true) ⟨o, q3, q4⟩ isSubtype_stop (wpAny_pure (fin _ q1)))
end
/-! zip(tuple, list) is made -/
abbrev mk1 (h : Heap) (t : Addr) : Heap := h.push { cls := .type "tuple_iterator", data := .fields #[.ref t, .int 0 0] }
abbrev mk2 (h : Heap) (t l : Addr) : Heap := (mk1 h t).push { cls := .type "list_iterator", data := .fields #[.ref l, .int 0 0] }
abbrev mk3 (h : Heap) (t l : Addr) : Heap := (mk2 h t l).push { cls := .type "tuple", data := .seq #[.ref h.objs.size, .ref (mk1 h t).objs.size] }
abbrev mk4 (h : Heap) (t l : Addr) : Heap := (mk3 h t l).push { cls := .type "tuple", data := .seq #[.none, .none] }
abbrev mk5 (h : Heap) (t l : Addr) : Heap := (mk4 h t l).push { cls := .type "zip", data := .fields #[.none, .bool false, .bool false, .ref (mk2 h t l).objs.size, .ref (mk3 h t l).objs.size] }
theorem meets_new (t l : Addr) (xs ys : Array Value) :
    Meets (Builtin.«zip.__new__» ⟨[.type "zip", .ref t, .ref l], []⟩) (fun _ R s => s.heap.IsTuple t xs ∧ s.heap.IsList l ys ∧ R (.ok (.ret (.ref (mk4 s.heap t l).objs.size))) { s with heap := mk5 s.heap t l }) :=
  .of_wp fun prog w A R s hyp => by
    obtain ⟨hp, g, d, tk, os⟩ := s; obtain ⟨ht, hl, hyp⟩ := hyp
    have hsub := sub_zip
    have q1 : Heap.IsTuple (Shared.heap ⟨hp, g, d, tk, os⟩) t xs := ht
    have q2 : Heap.IsList (Shared.heap ⟨mk1 hp t, g, d, tk, os⟩) l ys := Heap.IsList.push hl _
    wp_walk using wpAny_pyIter_tuple q1, wpAny_pyIter_list q2
    exact ⟨_, rfl, hyp⟩
section
variable {prog : Program} {w : World} {A : Around} {E : Value → Shared → Prop} {s : Shared}
theorem call_zipTL {t l : Addr} {xs ys : Array Value} {R : Value → Shared → Prop} (ht : s.heap.IsTuple t xs) (hl : s.heap.IsList l ys)
    (fin : ∀ h', IsZip h' (s.heap.objs.size + 4) (s.heap.objs.size + 2) (s.heap.objs.size + 3) .none → IsPair h' (s.heap.objs.size + 2) (.ref s.heap.objs.size) (.ref (s.heap.objs.size + 1)) →
      IsPair h' (s.heap.objs.size + 3) .none .none → h'.IsTupleIter s.heap.objs.size t 0 → h'.IsListIter (s.heap.objs.size + 1) l 0 → h'.objs.size = s.heap.objs.size + 5 →
      (∀ c o, s.heap.get? c = some o → h'.get? c = some o) → R (.ref (s.heap.objs.size + 4)) { s with heap := h' }) : wpAny (model prog w) A (call (.type "zip") [.ref t, .ref l]) R E s := by
  refine callType_new F.called_zip (by decide) (F.typeCall_zip_2 _ _) (F.newCall_zip_2 _ _) (fun obj => F.args_object_init_3 obj _ _) F.entry_zip_new (meets_new t l xs ys) ⟨ht, hl, ?_⟩
  have n1 : (mk1 s.heap t).objs.size = s.heap.objs.size + 1 := Heap.size_push ..
  have n2 : (mk2 s.heap t l).objs.size = s.heap.objs.size + 2 := by rw [Heap.size_push, n1]
  have n3 : (mk3 s.heap t l).objs.size = s.heap.objs.size + 3 := by rw [Heap.size_push, n2]
  have n4 : (mk4 s.heap t l).objs.size = s.heap.objs.size + 4 := by rw [Heap.size_push, n3]
  have n5 : (mk5 s.heap t l).objs.size = s.heap.objs.size + 5 := by rw [Heap.size_push, n4]
  have up : ∀ {h : Heap} {o : Obj} {c : Addr} {q : Obj}, h.get? c = some q → (h.push o).get? c = some q := fun e => Heap.get?_push_of_some _ e
  have m5 : (mk5 s.heap t l).get? (mk4 s.heap t l).objs.size = some _ := Heap.get?_push_size _ rfl
  have m4 : (mk5 s.heap t l).get? (mk3 s.heap t l).objs.size = some _ := up (Heap.get?_push_size _ rfl)
  have m3 : (mk5 s.heap t l).get? (mk2 s.heap t l).objs.size = some _ := up (up (Heap.get?_push_size _ rfl))
  have m2 : (mk5 s.heap t l).get? (mk1 s.heap t).objs.size = some _ := up (up (up (Heap.get?_push_size _ rfl)))
  have m1 : (mk5 s.heap t l).get? s.heap.objs.size = some _ := up (up (up (up (Heap.get?_push_size _ rfl))))
  show _ ∧ _
  rw [n2, n3, n4] at m5
  rw [n1, n2] at m3
  rw [n3] at m4
  rw [n1] at m2
  rw [n4]
  exact ⟨⟨_, m5, rfl⟩, fin _ m5 m3 m4 ⟨_, m1, rfl, rfl⟩ ⟨_, m2, rfl, rfl⟩ n5 fun c o e => up (up (up (up (up e))))⟩
end
/-- the tuple at a and the list at b as they stand at each turn -/
def ItzM (K : PySem.W.Frag) (a b : Addr) : It :=
  ⟨fun i H => ∃ (xs ys : List V) (x y : V), SqT K H a xs ∧ SqL K H b ys ∧ xs[i]? = some x ∧ ys[i]? = some y,
    fun i H v H' => ∃ T x y, v = .ref T ∧ H T = none ∧ H' = upd H T (.tup [x, y]) ∧ (∀ xs, SqT K H a xs → xs[i]? = some x) ∧ ∀ ys, SqL K H b ys → ys[i]? = some y,
    fun i H => ∃ xs : List V, SqT K H a xs ∧ xs.length ≤ i⟩
theorem turn_zipM {P : Program} {w : World} {K : PySem.W.Frag} {elts : List Expr} {kk : Nat} {tpos : Pos} {a b z U V J1 J2 : Addr} (D : ZipApart z U V J1 J2 a b) :
    Turn P w K (.Tuple elts kk tpos) (ItzM K a b) [z, U, V, J1, J2] z (fun i h => IsZip h z U V .none ∧ IsPair h U (.ref J1) (.ref J2) ∧ (∃ x y, IsPair h V x y) ∧ h.IsTupleIter J1 a i ∧ h.IsListIter J2 b i) where
  mem := List.mem_cons_self ..
  obj := fun i h st c hc => by
    obtain ⟨q1, q2, ⟨x, y, q3⟩, ⟨o1, e1, _, d1⟩, ⟨o2, e2, _, d2⟩⟩ := st
    have e' : c = z ∨ c = U ∨ c = V ∨ c = J1 ∨ c = J2 := by simpa using hc
    rcases e' with rfl | rfl | rfl | rfl | rfl
    · exact ⟨_, q1, fun v q => nomatch q⟩
    · exact ⟨_, q2, fun v q => nomatch q⟩
    · exact ⟨_, q3, fun v q => nomatch q⟩
    · exact ⟨o1, e1, fun v q => by rw [d1] at q; cases q⟩
    · exact ⟨o2, e2, fun v q => by rw [d2] at q; cases q⟩
  keep := fun i h h' st k => by
    obtain ⟨q1, q2, ⟨x, y, q3⟩, q4, q5⟩ := st
    exact ⟨k z (by simp) _ q1, k U (by simp) _ q2, ⟨x, y, k V (by simp) _ q3⟩, q4.at fun o q => k J1 (by simp) o q, q5.at fun o q => k J2 (by simp) o q⟩
  item := by
    rintro X rfl rfl rfl hc i pins s σ H E I hf ⟨q1, q2, ⟨x0, y0, q3⟩, q4, q5⟩ ⟨xs, ys, x, y, hqx, hqy, hx, hy⟩
    obtain ⟨its, rv, p, _⟩ := I.tuple hqx
    obtain ⟨its2, rv2, p2, _⟩ := I.list hqy
    obtain ⟨u, hu, ru⟩ := rv.get hx
    obtain ⟨u2, hu2, ru2⟩ := rv2.get hy
    have zl : z < s.heap.objs.size := Heap.lt_size q1
    refine nextG_item D (gives_tup (xs := its.toArray) (v := u) (by simpa using hu)) (gives_lst (xs := its2.toArray) (v := u2) (by simpa using hu2)) q1 q2 q3 ⟨q4, p⟩ ⟨q5, p2.isList⟩ fun h' z' V' a1 a2 hT hsz hk => ⟨_, rfl, ?_⟩
    refine wpAny_letOwnedTupleGo_zip (s := { s with heap := h' }) z' fun h'' z'' sb => ?_
    have hT2 : h''.get? s.heap.objs.size = some { cls := .type "tuple", data := .seq #[u, u2] } := (sb.2 _ (Nat.ne_of_gt zl)).trans hT
    have new : ObjOk X.prog X.w (upd H s.heap.objs.size (.tup [x, y])) h'' s.heap.objs.size (.tup [x, y]) := ⟨by show 2 ≤ sizeLine; decide, [u, u2], .cons ru (.cons ru2 .nil), ⟨_, hT2, rfl, _, rfl⟩⟩
    have I1 : Inv X pins σ (upd H s.heap.objs.size (.tup [x, y])) { s with heap := h'' } :=
      I.turnedNew (t' := s.toks) (ch := [z, U, V, J1, J2]) (fun c o hb q => (sb.2 c (fun e => hb (by simp [e]))).trans (hk c o (fun e => hb (by simp [e])) (fun e => hb (by simp [e])) (fun e => hb (by simp [e])) (fun e => hb (by simp [e])) q)) hf (Nat.le_refl _) new
    refine ⟨.ref s.heap.objs.size, _, I1, rfl, ⟨_, x, y, rfl, I.hok.fresh (Nat.le_refl _), rfl, fun l hl => by rw [I.tuple_inj hl hqx]; exact hx, fun l hl => by rw [I.list_inj hl hqy]; exact hy⟩, ⟨z'', (sb.2 _ D.TIz).trans (hk _ _ D.TIz D.TITO D.TIi1 D.TIi2 q2), ⟨u, u2, (sb.2 _ D.TOz).trans V'⟩, a1.at fun o q => (sb.2 _ D.i1z).trans q, a2.at fun o q => (sb.2 _ D.i2z).trans q⟩, fun c hcm => ?_⟩
    have lt : c < s.heap.objs.size := by
      have e' : c = z ∨ c = U ∨ c = V ∨ c = J1 ∨ c = J2 := by simpa using hcm
      obtain ⟨_, e1, _⟩ := q4
      obtain ⟨_, e2, _⟩ := q5
      rcases e' with rfl | rfl | rfl | rfl | rfl
      · exact zl
      · exact Heap.lt_size q2
      · exact Heap.lt_size q3
      · exact Heap.lt_size e1
      · exact Heap.lt_size e2
    rw [upd_ne (Nat.ne_of_lt lt)]
    exact (hf c hcm).1
  done := by
    rintro X rfl rfl rfl hc i pins s σ H E I hf ⟨q1, q2, ⟨x0, y0, q3⟩, q4, q5⟩ ⟨xs, hqx, hend⟩
    obtain ⟨its, rv, p, _⟩ := I.tuple hqx
    have l1 := rv.length
    refine nextG_end (I.ok.hd hc) D q1 q2 q4 p (by simp; omega) fun h' hk => ⟨rfl, I.turnedL (t' := s.toks) (ch := [z, U, V, J1, J2]) (fun c o hb q => hk c o (fun e => hb (by simp [e])) (fun e => hb (by simp [e])) q) hf⟩
  self := fun A i s Q E st h => wpAny_pyIter_zip st.1 h
/-- for .. in zip(tuple, list) -/
theorem zi_zipM {X : Cx} {e e2 : Expr} {p pos tpos : Pos} {elts : List Expr} {kk : Nat} {σ : L2.St} {H : Hp} {R : It → Hp → Prop} (hg : Gl X "zip") (hm : X.mg "zip" = none)
    (h : ZA X [e, e2] σ H fun vs H1 => ∃ a b xs ys, vs = [.ref a, .ref b] ∧ SqT X.K H1 a xs ∧ SqL X.K H1 b ys ∧ R (ItzM X.K a b) H1)
    (hs : starEach [e, e2] X.env = (false, eval e X.env) :: starEach [e2] X.env := by rfl) (hpl : (backTo pos (starEach [e2] X.env)).any (·.1) = false := by rfl) :
    ZI X (.Tuple elts kk tpos) (.Call (.Name "zip" p) [e, e2] [] pos) σ H R := by
  refine ⟨fun pins s I => ?_⟩
  refine Call_ (ld_blt I hg hm PyProof.Rows.boot_zip (PyProof.Rows.callWith_type1 (thn (h.run pos pins s I) fun us s1 ⟨vs, H1, I1, r1, a, b, xs, ys, ex, hqx, hqy, q⟩ => ?_) hs hpl))
  subst ex
  cases r1 with
  | cons r rr =>
    cases rr with
    | cons r' rr =>
      cases rr
      cases r
      cases r'
      obtain ⟨its, rv, p1, _⟩ := I1.tuple hqx
      obtain ⟨its2, rv2, p2, _⟩ := I1.list hqy
      obtain ⟨o1, ho1, _⟩ := id p1
      let n := s1.heap.objs.size
      have fresh : ∀ c, c ∈ [n + 4, n + 2, n + 3, n, n + 1] → FpOk X pins H1 c := fun c mem => by
        have le : n ≤ c := by rcases (show c = n + 4 ∨ c = n + 2 ∨ c = n + 3 ∨ c = n ∨ c = n + 1 by simpa using mem) with q | q | q | q | q <;> rw [q] <;> first | exact Nat.le_refl _ | exact Nat.le_add_right _ _
        exact I1.fpOk le (I1.hok.fresh le)
      refine call_zipTL (show s1.heap.IsTuple a its.toArray from p1) p2.isList fun h' q1 q2 q3 q4 q5 hsz hk => wpAny_pyIter_zip q1 ?_
      have I2 : Inv X pins σ H1 { s1 with heap := h' } := I1.kept (t' := s1.toks) hk
      exact ⟨n + 4, [n + 4, n + 2, n + 3, n, n + 1], _, _, H1, rfl, I2, turn_zipM (PySem.W.ktu_apart s1.heap.objs.size a b (Heap.lt_size ho1) p2.lt), ⟨q1, q2, ⟨_, _, q3⟩, q4, q5⟩, fresh, q⟩
end RZB
namespace L2
open PySem PySem.Spec PyProof.Rows
section
variable {X : Cx} {σ : St} {H : Hp} {Q : VK}
/-- a list times a count -/
theorem ow_rep {l : Addr} {k : Int} {xs : List V} (e : H l = some (.lst xs)) (k0 : 0 ≤ k) (k9 : k ≤ 1000) (hz : xs.length ≤ 1000) (q : ∀ p, NoA H p → Q (.ref p) (upd H p (.lst (List.replicate k.toNat xs).flatten))) : OpW X σ (binaryOp .Mult) (.ref l) (.int k) H Q :=
  op_rep.w ⟨l, k, xs, rfl, rfl, e, by omega, by omega, by
    have : xs.length * k.toNat ≤ 1000 * 1000 := Nat.mul_le_mul hz (by omega)
    rw [sizeLine_eq]; omega, fun p n => q p ⟨n⟩⟩
/-- a dict that the top has written, at a text -/
theorem xw_kd {p : Addr} {z : Str} {v : V} (d : KDct X.K X.w p z v) (q : Q v H) : IxW X σ (.ref p) (.str z) H Q := ix_kdict.w ⟨p, z, v, rfl, rfl, d, q⟩
end
section
variable {X : Cx} {e e2 : Expr} {body : List Stmt} {σ : St} {H : Hp} {nx bk ct : NX} {rt : VK} {p pos tpos rpos : Pos} {elts : List Expr} {kk : Nat}
theorem zs_forZ (hp : PassesOwn (model X.prog X.w) X.A X.env X.xe) (hc : X.calm = true) (hm : X.mg "zip" = none)
    (h : ZA X [e, e2] σ H fun vs H1 => ∃ a b xs ys, vs = [.ref a, .ref b] ∧ SqT X.K H1 a xs ∧ SqL X.K H1 b ys ∧ xs.length = ys.length ∧ ∃ Iv : Nat → St → Hp → Prop, Iv 0 σ H1 ∧ (∀ i σ1 H2, i ≤ xs.length → Iv i σ1 H2 → SqT X.K H2 a xs ∧ SqL X.K H2 b ys) ∧
      (∀ i x y T σ1 H2, xs[i]? = some x → ys[i]? = some y → Iv i σ1 H2 → H2 T = none → ZG X (.Tuple elts kk tpos) (.ref T) σ1 (upd H2 T (.tup [x, y])) fun σ2 H3 => ZSs X body (Iv (i + 1)) rt nx (Iv (i + 1)) σ2 H3) ∧ ∀ σ1 H2, Iv xs.length σ1 H2 → nx σ1 H2)
    (hg : Gl X "zip" := by rfl) (hst : starEach [e, e2] X.env = (false, eval e X.env) :: starEach [e2] X.env := by rfl) (hpl : (backTo rpos (starEach [e2] X.env)).any (·.1) = false := by rfl) (hs : ∀ x, foldedSetIterable (.Call (.Name "zip" p) [e, e2] [] rpos) X.env x = pure x := by intro _; rfl) :
    ZS X (.For (.Tuple elts kk tpos) (.Call (.Name "zip" p) [e, e2] [] rpos) body [] pos) nx rt bk ct σ H := by
  refine zs_for hp hc (RZB.zi_zipM hg hm ?_ hst hpl) hs
  refine ⟨fun ps pins s I => thn (h.run ps pins s I) fun u s1 hh => ?_⟩
  obtain ⟨vs, H1, I1, r1, a, b, xs, ys, ex, hx, hy, hl, Iv, i0, kp, st, fi⟩ := hh
  refine ⟨vs, H1, I1, r1, a, b, xs, ys, ex, hx, hy, fun i m σ' H' => m = xs.length - i ∧ i ≤ xs.length ∧ Iv i σ' H', ⟨_, rfl, Nat.zero_le _, i0⟩, ?_⟩
  rintro i m σ' H' ⟨rfl, hi, iv⟩
  obtain ⟨qx, qy⟩ := kp i σ' H' hi iv
  by_cases hlt : i < xs.length
  · refine .inr ⟨⟨xs, ys, xs[i], ys[i]'(by omega), qx, qy, by simp [hlt], by simp [show i < ys.length by omega]⟩, Iv (i + 1), fun σ2 H2 q => ⟨_, by omega, rfl, hlt, q⟩, fun v H2 yy => ?_⟩
    obtain ⟨T, x', y', rfl, nT, rfl, f1, f2⟩ := yy
    exact st i x' y' T σ' H' (f1 xs qx) (f2 ys qy) iv nT
  · obtain rfl : i = xs.length := by omega
    exact .inl ⟨⟨xs, qx, Nat.le_refl _⟩, fi _ _ iv⟩
end
end L2

namespace Law
open PySem PySem.Spec PyProof.Rows L2

/-! One step by the syntax of the goal ("z"); as many as go by themselves ("zz"); with both ways of a test ("za"). The carrier is the word «fail» with a text. -/
local macro_rules | `(tactic| fail "at") => `(tactic| with_reducible (repeat (first | exact At.here | apply At.there)))
local macro_rules | `(tactic| fail "sat") => `(tactic| with_reducible (repeat (first | exact SetAt.here | apply SetAt.there)))
local macro_rules | `(tactic| fail "ztk") => `(tactic| first | exact Trk.put | exact Trk.of (by assumption) | exact Trk.src (by assumption) | (refine Trk.up ?_; fail "ztk") | (refine Trk.same (by assumption) ?_; fail "ztk"))
local macro_rules | `(tactic| fail "zne") => `(tactic| first | assumption | exact Ne.symm (by assumption) | (refine Trk.ne ?_ (by assumption); fail "ztk") | (refine Ne.symm (Trk.ne ?_ (by assumption)); fail "ztk"))
local macro_rules | `(tactic| fail "zh") => `(tactic| first | assumption | exact upd_same | (refine' Eq.trans (upd_ne ?hne) ?_; (case hne => fail "zne"); fail "zh") | (refine Same.get (by assumption) ?_; fail "zh"))
local macro_rules | `(tactic| fail "zle") => `(tactic| first | exact Nat.le_of_ble_eq_true rfl | fail "zside")
local macro_rules | `(tactic| fail "zno") => `(tactic| first | assumption | exact NoA.e (by assumption) | (refine NoA.free ?_ (by assumption); fail "zsm"))
local macro_rules | `(tactic| fail "zsm") => `(tactic| first | assumption | exact Same.refl _ | (refine Same.put ?_ ?_; (fail "zsm"); (fail "zno")) | (refine Same.new ?_ ?_; (fail "zsm"); (fail "zno")) | (refine Same.trans ?_ (by assumption); fail "zsm"))
local macro_rules | `(tactic| fail "zty") => `(tactic| first | exact .base (.int _) | exact .base (.bl _) | exact .base (.str _) | exact .base .non | (refine' .base (.lst ?e); (case e => fail "zh")) | (refine' .base (.tup ?e); (case e => fail "zh")) | assumption)
local macro_rules | `(tactic| fail "zkb") => `(tactic| first | exact (show kitB _ _ = some true by decide +kernel) | exact (show kitB _ _ = some false by decide +kernel))
local macro_rules | `(tactic| fail "zq") => `(tactic| first | (refine' Or.inl (SqL.of ?hp); (case hp => fail "zh")) | (refine' Or.inr (SqT.of ?hp); (case hp => fail "zh")) | exact Or.inr (by assumption) | exact Or.inl (by assumption) | exact Or.inl (Same.seq (by assumption) (by assumption)) | (refine' Or.inr ((?f : ∀ H', SqT _ H' _ _) _); (case f => assumption)))
local macro_rules | `(tactic| fail "zside") => `(tactic| first | (with_reducible assumption) | omega | assumption | decide)
local macro_rules | `(tactic| fail "zx") => `(tactic| first
  | (refine' xw_lst (SqL.of ?hp) ?hi ?_; (case hp => fail "zh"); (case hi => rfl)) | (refine' xw_tup (SqT.of ?hp) ?hi ?_; (case hp => fail "zh"); (case hi => rfl)))
local macro_rules | `(tactic| fail "zS") => `(tactic| first
  | (with_reducible refine zs_if ?_) | (with_reducible refine zs_ret ?_)
  | ((with_reducible refine' s_set ‹NOk _ _ _› ?hN ?hf ?k ?hs); (case hN => exact ⟨rfl, rfl⟩); (case hf => rfl); (case hs => rfl))
  | ((with_reducible refine' s_expr ?k ?hs); (case hs => rfl))
  | ((with_reducible refine' s_attrS ?k ?hs); (case hs => rfl))
  | ((with_reducible refine' s_asg ?k ?hs ?hw ?h1); (case hs => rfl); (case hw => rfl); (case h1 => rfl))
  | ((with_reducible refine' s_raise ?c ‹Room _ _› ?hX ?hc ?k ?hg ?hdb ?he ?hpl); (case c => (with_reducible assumption)); (case hX => exact ⟨rfl, rfl, rfl, rfl, rfl, rfl⟩); (case hc => rfl); (case hg => rfl); (case hdb => decide); (case he => rfl); (case hpl => rfl))
  | ((with_reducible refine' s_raise0 ?c ?hX ?hc ?k ?hg ?hdb); (case c => (with_reducible assumption)); (case hX => exact ⟨rfl, rfl, rfl, rfl, rfl, rfl⟩); (case hc => rfl); (case hg => rfl); (case hdb => decide))
  | (with_reducible refine zs_pass ?_) | (with_reducible refine zs_retN ?_) | (with_reducible refine zs_break ?_) | (with_reducible refine zs_continue ?_))
local macro_rules | `(tactic| fail "zlev") => `(tactic| first | decide | exact Nat.le_refl _ | omega)
local macro_rules | `(tactic| fail "zbf") => `(tactic| with_reducible first | exact BFn.len | exact BFn.abs | exact BFn.isi | exact BFn.max | exact BFn.min | exact BFn.dm)
local macro_rules | `(tactic| fail "zbt") => `(tactic| with_reducible first | exact BTy.int | exact BTy.boo | exact BTy.str | exact BTy.tup | exact BTy.lst | exact BTy.ve)
local macro_rules | `(tactic| fail "zbm") => `(tactic| with_reducible first | exact BM.startswith | exact BM.upper | exact BM.index | exact BM.append | exact BM.join | exact BM.lower | exact BM.strip | exact BM.find | exact BM.count | exact BM.split | exact BM.endswith | exact BM.isdigit | exact BM.isalpha | exact BM.partition | exact BM.rstrip | exact BM.lstrip | exact BM.isspace | exact BM.isalnum)
local macro_rules | `(tactic| fail "zM") => `(tactic| first
  | ((with_reducible refine' s_bm ?f ?k ?hb ?hl ?hfew ?hs ?hpl); (case f => fail "zbm"); (case hb => rfl); (case hl => rfl); (case hfew => rfl); (case hs => rfl); (case hpl => rfl))
  | ((with_reducible refine' s_bm0 ?f ?k ?hb ?hl); (case f => fail "zbm"); (case hb => rfl); (case hl => rfl))
  | ((with_reducible refine' s_meth ?cm ?cl ‹Room _ _› ?hk ?hX ?k ?hs ?hp ?ht); (case cm => (with_reducible assumption)); (case cl => assumption); (case hk => fail "zlev"); (case hX => exact ⟨rfl, rfl, rfl, rfl, rfl, rfl⟩); (case hs => rfl); (case hp => rfl); (case ht => rfl))
  | ((with_reducible refine' s_meth0 ?cm ?cl ‹Room _ _› ?hk ?hX ?k ?ht); (case cm => (with_reducible assumption)); (case cl => assumption); (case hk => fail "zlev"); (case hX => exact ⟨rfl, rfl, rfl, rfl, rfl, rfl⟩); (case ht => rfl)))
local macro_rules | `(tactic| fail "zC") => `(tactic| first
  | ((with_reducible refine' s_callB ?f ‹Blt _› ?hB ?k ?hg ?he ?hpl); (case f => fail "zbf"); (case hB => rfl); (case hg => rfl); (case he => rfl); (case hpl => rfl))
  | ((with_reducible refine' s_callT ?f ‹Blt _› ?hB ?k ?hg ?he ?hpl); (case f => fail "zbt"); (case hB => rfl); (case hg => rfl); (case he => rfl); (case hpl => rfl)))
local macro_rules | `(tactic| fail "zD") => `(tactic| first
  | ((with_reducible refine' s_call ?c ‹Room _ _› ?hk ?hX ?k ?hg ?hdb ?he ?hpl); (case c => (with_reducible assumption)); (case hk => first | decide | exact Nat.le_refl _ | omega); (case hX => exact ⟨rfl, rfl, rfl, rfl, rfl, rfl⟩); (case hg => rfl); (case hdb => decide); (case he => rfl); (case hpl => rfl))
  | ((with_reducible refine' s_callH ?c (by assumption) (by assumption) ‹Room _ _› ?hk ?hX ?k ?hg ?hdb ?he ?hpl); (case c => (with_reducible assumption)); (case hk => first | decide | exact Nat.le_refl _ | omega); (case hX => exact ⟨rfl, rfl, rfl, rfl, rfl, rfl⟩); (case hg => rfl); (case hdb => decide); (case he => rfl); (case hpl => rfl))
  | ((with_reducible refine' s_make ?c ‹Room _ _› ?hk ?hX ?k ?hg ?hdb ?he ?hpl); (case c => (with_reducible assumption)); (case hk => first | decide | exact Nat.le_refl _ | omega); (case hX => exact ⟨rfl, rfl, rfl, rfl, rfl, rfl⟩); (case hg => rfl); (case hdb => decide); (case he => rfl); (case hpl => rfl))
  | ((with_reducible refine' s_makeK ?c ‹Room _ _› ?hk ?hX ?k ?hg ?hall ?hks ?hdb ?he ?hpl); (case hks => rfl); (case c => assumption); (case hk => fail "zlev"); (case hX => exact ⟨rfl, rfl, rfl, rfl, rfl, rfl⟩); (case hg => rfl); (case hall => rfl); (case hdb => decide); (case he => rfl); (case hpl => rfl))
  | ((with_reducible refine' s_call0 ?c ‹Room _ _› ?hk ?hX ?k ?hg ?hdb); (case c => (with_reducible assumption)); (case hk => first | decide | exact Nat.le_refl _ | omega); (case hX => exact ⟨rfl, rfl, rfl, rfl, rfl, rfl⟩); (case hg => rfl); (case hdb => decide)))
local macro_rules | `(tactic| fail "zn") => `(tactic| first
  | ((with_reducible refine' s_name ‹NOk _ _ _› ?ha ?hi ?hN ?k); (case ha => fail "at"); (case hi => decide); (case hN => exact ⟨rfl, rfl⟩))
  | ((with_reducible refine' s_bty ?f ‹Blt _› ?hB ?hg ?k); (case f => fail "zbt"); (case hB => rfl); (case hg => rfl))
  | ((with_reducible refine' s_gref ?hm ?hB ?hg ?hd ?k); (case hm => (with_reducible assumption)); (case hB => rfl); (case hg => rfl); (case hd => decide))
  | ((with_reducible refine' b_name ‹NOk _ _ _› ?hN ?ha ?hv ?hd ?hcd ?k); (case hN => rfl); (case ha => fail "at"); (case hv => first | exact Or.inl rfl | exact Or.inr (Or.inl rfl) | exact Or.inr (Or.inr rfl)); (case hd => decide); (case hcd => decide)))
local macro_rules | `(tactic| fail "zE") => `(tactic| first
  | ((with_reducible show ZE _ (Expr.Name _ _) _ _ _); fail "zn")
  | (with_reducible refine ze_int ?_) | (with_reducible refine ze_str ?_)
  | (with_reducible refine ze_op ?_)
  | ((with_reducible refine ze_slice ?_))
  | ((with_reducible refine' s_sub ?k ?hs); (case hs => exact fun _ _ => rfl))
  | ((with_reducible refine' ze_cmp ?hm ?k); (case hm => first | exact nomark _ | rfl))
  | ((with_reducible refine' s_attr ?k ?hb); (case hb => rfl))
  | ((with_reducible show ZE _ (Expr.Call (Expr.Name _ _) _ _ _) _ _ _); first | fail "zC" | fail "zD")
  | ((with_reducible show ZE _ (Expr.Call (Expr.Attribute _ _ _) _ _ _) _ _ _); fail "zM")
  | (with_reducible refine ze_bl ?_) | (with_reducible refine ze_non ?_)
  | (with_reducible refine ze_notV ?_) | (with_reducible refine ze_un ?_) | (with_reducible refine ze_and ?_) | (with_reducible refine ze_or ?_) | (with_reducible refine ze_and1 ?_) | (with_reducible refine ze_if ?_)
  | ((with_reducible refine' ze_chain ?hm ?k); (case hm => rfl))
  | (with_reducible refine ze_lst ?_) | (with_reducible refine ze_tup ?_))
local macro_rules | `(tactic| fail "zT") => `(tactic| first
  | ((with_reducible refine' zt_cmp ?hm ?k); (case hm => first | exact nomark _ | rfl))
  | (with_reducible refine zt_not ?_) | (with_reducible refine zt_and ?_) | (with_reducible refine zt_or ?_)
  | ((with_reducible refine' zt_chain ?hm ?k); (case hm => rfl))
  | ((with_reducible refine' s_val ?k ?he); (case he => (intro _; rfl))))
local macro_rules | `(tactic| fail "zdp") => `(tactic| first | exact Dp.int _ | exact Dp.str _ | exact Dp.bl _ | exact Dp.non | (refine' Dp.lst (SqL.of ?hh) ?kk; (case hh => fail "zh"); (case kk => fail "zdpa")) | (refine' Dp.tup (SqT.of ?hh) ?kk; (case hh => fail "zh"); (case kk => fail "zdpa")))
local macro_rules | `(tactic| fail "zdpa") => `(tactic| first | exact DpAll.nil | (refine' DpAll.cons ?hh ?kk; (case hh => fail "zdp"); (case kk => fail "zdpa")))
local macro_rules | `(tactic| fail "zO") => `(tactic| first
  | (with_reducible refine ow_add ?_) | (with_reducible refine ow_sub ?_) | (with_reducible refine ow_eqi ?_) | (with_reducible refine ow_nei ?_) | (with_reducible refine ow_lt ?_) | (with_reducible refine ow_le ?_) | (with_reducible refine ow_gt ?_) | (with_reducible refine ow_ge ?_)
  | (with_reducible refine ow_eqs ?_) | (with_reducible refine ow_nes ?_) | (with_reducible refine ow_isN ?_) | (with_reducible refine ow_notN ?_) | (with_reducible refine ow_eqb ?_) | (with_reducible refine ow_neb ?_)
  | ((with_reducible refine' ow_eqD ?hu ?hx ?hy ?h1 ?h2 ?hr ?k); (case hu => (have hu := Room.u64 (‹Room _ _›); exact hu)); (case hx => fail "zdp"); (case hy => fail "zdp"); (case h1 => rfl); (case h2 => rfl); (case hr => first | exact (show PyData.eqv _ _ = true from rfl) | exact (show PyData.eqv _ _ = false from rfl) | (refine (show PyData.eqv _ _ = true from ?_); simp only [PyData.eqv, PyData.eqvAll, beq_self_eq_true, Bool.and_self, Bool.and_true])))
  | ((with_reducible refine' ow_addl ?h1 ?h2 ?hc (intro_no fun _ _ => ?k)); (case h1 => fail "zh"); (case h2 => fail "zh"); (first | (case hc => fail "zle") | skip))
  | ((with_reducible refine' ow_adds ?hc ?k); (first | (case hc => fail "zle") | skip))
  | ((with_reducible refine' ow_in ?hs ?hx ?ha ?k); (case hs => fail "zq"); (case hx => rfl); (case ha => rfl)) | ((with_reducible refine' ow_notin ?hs ?hx ?ha ?k); (case hs => fail "zq"); (case hx => rfl); (case ha => rfl))
  | ((with_reducible refine' ow_mod ?hc ?k); (case hc => fail "zside")) | ((with_reducible refine' ow_fdiv ?hc ?k); (case hc => exact ⟨by fail "zside", by fail "zside"⟩))
  | ((with_reducible refine' ow_mul ?hc ?k); (case hc => first | exact .inr ⟨by fail "zside", by fail "zside"⟩ | exact .inl ⟨by fail "zside", by fail "zside"⟩))
  | (with_reducible refine' ow_mulW ?hc ?k)
  | (with_reducible refine' ow_fdivW ?hc ?k)
  | ((with_reducible refine' ow_pow ?hc ?k); (case hc => exact ⟨by fail "zside", by fail "zside", by fail "zside"⟩)))
local macro_rules | `(tactic| fail "zbin") => `(tactic| with_reducible first | exact BinM.add | exact BinM.sub | exact BinM.mul | exact BinM.fdiv | exact BinM.mod | exact BinM.pow | exact BinM.shl | exact BinM.shr | exact BinM.div | exact BinM.band)
local macro_rules | `(tactic| fail "zcm") => `(tactic| with_reducible first | exact CmpM.lt | exact CmpM.le | exact CmpM.gt | exact CmpM.ge | exact CmpM.eq)
local macro_rules | `(tactic| fail "zOwn") => `(tactic| first
  | ((with_reducible refine' ow_bin ?bm ?cm ?hc ‹Room _ _› ?hk ?hX ?ea ?eb ?k); (case bm => fail "zbin"); (case ea => fail "zh"); (case eb => fail "zh"); (case cm => (with_reducible assumption)); (case hc => assumption); (case hk => fail "zlev"); (case hX => exact ⟨rfl, rfl, rfl, rfl, rfl, rfl⟩))
  | ((with_reducible refine' ow_binI ?bm ?cm ?hc ?T ‹Room _ _› ?hk ?hX ?ea ?k); (case bm => fail "zbin"); (case ea => fail "zh"); (case cm => (with_reducible assumption)); (case hc => assumption); (case T => assumption); (case hk => fail "zlev"); (case hX => exact ⟨rfl, rfl, rfl, rfl, rfl, rfl⟩))
  | ((with_reducible refine' ow_inO ?cm ‹Room _ _› ?hk ?hX ?ea ?k); (case ea => fail "zh"); (case cm => (with_reducible assumption)); (case hk => fail "zlev"); (case hX => exact ⟨rfl, rfl, rfl, rfl, rfl, rfl⟩))
  | ((with_reducible refine' ow_cmpO ?bm ?cm ‹Room _ _› ?hk ?hX ?ea ?eb ?k); (case bm => fail "zcm"); (case ea => fail "zh"); (case eb => fail "zh"); (case cm => (with_reducible assumption)); (case hk => fail "zlev"); (case hX => exact ⟨rfl, rfl, rfl, rfl, rfl, rfl⟩)))
local macro_rules | `(tactic| fail "z") => `(tactic| first
  | ((with_reducible show ZE _ _ _ _ _); fail "zE")
  | ((with_reducible show OpW _ _ _ _ _ _ _); first | fail "zO" | fail "zOwn")
  | (with_reducible refine ⟨_, rfl, ?_⟩)
  | ((with_reducible refine' s_setAt ?sa ?hi ?k); (case sa => fail "sat"); (case hi => decide))
  | ((with_reducible show ZSs _ _ _ _ _ _ _ _); with_reducible (first | refine zss_one ?_ | refine zss_cons ?_ | refine zss_nil ?_))
  | ((with_reducible show ZS _ _ _ _ _ _ _ _); fail "zS")
  | ((with_reducible show ZT _ _ _ _ _); fail "zT")
  | ((with_reducible show ZW _ _ _ _ _); with_reducible (first | refine zw_and ?_ | refine zw_or ?_ | refine zw_and1 ?_ | refine zw_or1 ?_))
  | ((with_reducible show ZA _ _ _ _ _); first | ((with_reducible refine' s_cons ?k ?hs); (case hs => rfl)) | (with_reducible refine za_nil ?_))
  | ((with_reducible show CallW _ _ _ _ _); first | ((with_reducible refine' cw_isx (by assumption) (by assumption) ?hc ?T ?hd ?hv ?hk ?_); (case hc => rfl); (case T => assumption); (case hd => first | exact Or.inl rfl | exact Or.inr ⟨_, _, rfl, by fail "zh"⟩); (case hv => first | exact .own _ | exact .ty _); (case hk => assumption)) | ((with_reducible refine' cw_isb ?hx ?hk ?_); (case hx => fail "zty"); (case hk => fail "zkb")) | ((with_reducible refine' cw_isi (.ty _) ?hx ?hk ?_); (case hx => exact ClsI.ty (by assumption) (by fail "zh")); (case hk => assumption)) | ((with_reducible refine' cw_isi (.own _) ?hx ?hk ?_); (case hx => first | exact ClsI.ty (by assumption) (by fail "zh") | fail "zty"); (case hk => first | exact kit_self | assumption)) | (with_reducible refine cw_int ?_) | ((with_reducible refine' cw_tuple ?hs (intro_no fun _ _ => ?_)); (case hs => first | exact SqL.of (by fail "zh") | assumption)) | ((with_reducible refine' cw_divmod ?hc (intro_no fun _ _ => ?_)); (case hc => exact ⟨by fail "zside", by fail "zside"⟩)) | ((with_reducible refine' cw_list ?hs (intro_no fun _ _ => ?_)); (case hs => fail "zq")) | ((with_reducible refine' cw_min2 ?hc ?k); (case hc => rfl)) | ((with_reducible refine' cw_max2 ?hc ?k); (case hc => rfl)) | (with_reducible refine cw_abs ?_) | ((with_reducible refine' cw_absO ?cm ‹Room _ _› ?hk ?hX ?ea ?k); (case ea => fail "zh"); (case cm => (with_reducible assumption)); (case hk => fail "zlev"); (case hX => exact ⟨rfl, rfl, rfl, rfl, rfl, rfl⟩)) | (with_reducible refine cw_intb ?_) | ((with_reducible refine' cw_lenq ?hs ?k); (case hs => fail "zq")) | ((with_reducible refine' cw_lens ?hs ?k); (first | (case hs => fail "zle") | skip)))
  | ((with_reducible show IxW _ _ _ _ _ _); fail "zx")
  | ((with_reducible show MtW _ _ _ _ _ _); first | (with_reducible refine mw_startswith ?_) | (with_reducible refine mw_endswith ?_) | (with_reducible refine mw_find ?_) | (with_reducible refine mw_count ?_) | ((with_reducible refine' mw_upper ?hz ?k); (first | (case hz => fail "zle") | skip)) | ((with_reducible refine' mw_lower ?hz ?k); (first | (case hz => fail "zle") | skip)) | ((with_reducible refine' mw_split ?hz2 ?hz (fun _ _ => ?k)); (case hz2 => decide); (first | (case hz => fail "zle") | skip)) | ((with_reducible refine' mw_append ?hs ?hz ?k); (case hs => fail "zh"); (first | (case hz => fail "zside") | skip)))
  | ((with_reducible show tyV _ _ _ _ ∧ _); refine And.intro (by first | exact rfl | exact Or.inl ⟨rfl, _, SqL.of (by fail "zh")⟩ | exact Or.inl ⟨rfl, _, by assumption⟩) ?_)
  | ((with_reducible show V.non = V.non ∧ _); refine And.intro rfl ?_)
  | (with_reducible refine zk_cons ?_) | (with_reducible refine zk_nil ?_)
  | ((with_reducible show List.length _ = _ ∧ List.length _ = _ ∧ _); refine ⟨rfl, rfl, ?_⟩)
  | ((with_reducible refine' OwnAt.do ?e ?l ?k); (case e => fail "zh"); (case l => rfl))
  | ((with_reducible show _ ≤ sizeLine ∧ _); refine And.intro (by fail "zle") ?_)
  | ((with_reducible show ∀ p, _ = none → _); refine intro_no (fun _ _ => ?_))
  | ((with_reducible show List.length _ = List.length _ ∧ _ ∧ _); refine ⟨rfl, Nat.le_of_ble_eq_true rfl, ?_⟩)
  | (with_reducible refine xw_def ?_)
  | ((with_reducible show ZO _ _ _ _ _); with_reducible (first | refine zo_none ?_ | refine zo_some ?_))
  | ((with_reducible show SlW _ _ _ _ _ _); first | ((with_reducible refine' slw_str ?hz ?k); (first | (case hz => fail "zle") | skip)) | ((with_reducible refine' slw_lst ?hs (intro_no fun _ _ => ?k)); (case hs => first | exact SqL.of (by fail "zh") | assumption)))
  | fail "zP"
  | ((with_reducible show SetW _ _ _ _ _ _); refine' sw_lst ?hp ?hi ?_; (case hp => fail "zh"); (case hi => rfl))
  | ((with_reducible show ZG _ (Expr.Tuple _ _ _) _ _ _ _); first | (refine zg_tup rfl ?_; refine ⟨_, _, rfl, SqT.of (by fail "zh"), rfl, ?_⟩) | (refine zg_lst rfl ?_; refine ⟨_, _, rfl, SqL.of (by fail "zh"), rfl, ?_⟩))
  | ((with_reducible show ZG _ _ _ _ _ _); first | ((with_reducible refine' s_gsub ?k ?ha); (case ha => (intro _; rfl))) | ((with_reducible refine' s_gname ‹NOk _ _ _› ?sa ?hi ?hN ?hf ?k); (case sa => fail "sat"); (case hi => decide); (case hN => exact ⟨rfl, rfl⟩); (case hf => rfl)) | ((with_reducible refine' b_gname ‹NOk _ _ _› ?hN ?sa ?hx ?hf ?k); (case hN => rfl); (case sa => fail "sat"); (case hx => first | exact Or.inl rfl | exact Or.inr rfl); (case hf => first | exact .inl rfl | exact .inr rfl)))
  | ((with_reducible show ZA1 _ _ _ _ _); first | ((with_reducible refine' za1_cons ?k ?hs); (case hs => rfl)) | (with_reducible refine za1_nil ?_))
  | ((with_reducible show ZE1 _ _ _ _ _); first | refine ze1_repl ?_ | (with_reducible refine ze1_of ?_))
  | ((with_reducible show _ ≤ 16777216 ∧ _); refine And.intro ?_ ?_)
  | ((with_reducible show AtW _ _ _ _ _); first
      | ((with_reducible refine' aw_xd (by assumption) (by assumption) ?hc ?hd ?T ?hno ?ea ?l ?q); (case hc => rfl); (case hd => rfl); (case T => assumption); (case hno => assumption); (case ea => fail "zh"); (case l => rfl))
      | ((with_reducible refine' aw_fld ?e ?c ?n ?l ?q); (case e => fail "zh"); (case c => assumption); (case n => assumption); (case l => rfl))
      | ((with_reducible refine' aw_cval ?r ?k ?q); (case k => assumption); (case r => assumption))
      | ((with_reducible refine' aw_prop ?c ?cl ‹Room _ _› ?hk ?hX ?e ?k); (case c => (with_reducible assumption)); (case e => fail "zh"); (case cl => assumption); (case hk => first | decide | exact Nat.le_refl _ | omega); (case hX => exact ⟨rfl, rfl, rfl, rfl, rfl, rfl⟩)))
  | ((with_reducible show ∃ p C dx fs, _ = V.ref p ∧ _); refine ⟨_, _, _, _, rfl, by fail "zh", by assumption, by assumption, Nat.le_of_ble_eq_true rfl, ?_⟩)
  | ((with_reducible show ∀ a dx, NoA _ a → _); intro _ _ _ _ _)
  | ((with_reducible show UnW _ _ _ _ _); refine uw_neg ?_)
  | (with_reducible refine zgs_nil ?_) | refine zgs_cons ?_)
local macro_rules | `(tactic| fail "zbk") => `(tactic| simp only [reduceCtorEq, decide_true, decide_false, Bool.not_true, Bool.not_false, Bool.true_eq_false, Bool.false_eq_true, not_false_eq_true, not_true_eq_false])
local macro_rules | `(tactic| fail "zi") => `(tactic| first
  | ((with_reducible refine' iteP ?h ?_); (case h => fail "zbk")) | ((with_reducible refine' iteN ?h ?_); (case h => fail "zbk"))
  | (with_reducible refine iteT ?_) | (with_reducible refine iteF ?_) | (with_reducible refine zite_d (fun hc => ?_) (fun hc => ?_)) | (with_reducible refine zite_n (fun hc => ?_) (fun hc => ?_)) | (with_reducible refine zite_nb (fun hc => ?_) (fun hc => ?_)) | (with_reducible refine zite_b (fun hc => ?_) (fun hc => ?_)))
local macro_rules | `(tactic| fail "zz") => `(tactic| repeat (first | fail "z" | (with_reducible refine iteT ?_) | (with_reducible refine iteF ?_)))
local macro_rules | `(tactic| fail "za") => `(tactic| repeat' (first | fail "z" | fail "zi"))
local macro_rules | `(tactic| fail "z0") => `(tactic| ((first | refine zss_one ?_ | refine zss_cons ?_); fail "za"))
local macro_rules | `(tactic| fail "zsrc") => `(tactic| first | assumption | (refine Src.same (by assumption) ?_; fail "zsrc") | (refine Src.same (Same.new (Same.refl _) (NoA.e (by assumption))) ?_; fail "zsrc") | (refine Src.same ?_ (by assumption); fail "zsm"))
local macro_rules | `(tactic| fail "zP") => `(tactic| (with_reducible refine' draw_do ?h1 ?h2 ?h3 (fun _ _ _ => ?h)); (first | (case h1 => fail "zside") | skip); (first | (case h2 => fail "zside") | skip); (case h3 => fail "zsrc"))
local macro_rules | `(tactic| fail "zsc") => `(tactic| with_reducible first | exact Sc.mapS | exact Sc.mapI | exact Sc.nil | (refine Sc.app ?_ ?_ <;> fail "zsc") | (refine Sc.cons (by first | exact .bl _ | exact .str _ | exact .int _ | exact .non) ?_; fail "zsc"))
variable {P : Program} {w : World} {K : PySem.W.Frag} {mg : Str → Option Value} {base : Heap}

def topS (i : Nat) : Stmt := PySem.Challenge.pw_lostpart_k34_standard_steps.main.body.getD i (.Pass ⟨0, 0, 0, 0⟩)
abbrev S__wall : Stmt := topS 0
abbrev N__wall : List Str := ["k"]
theorem sc__wall : FnScope ["k"] ["k"] (defScope S__wall) := ⟨rfl, rfl, rfl, by decide +kernel, rfl, by decide +kernel, by decide +kernel⟩
theorem nk__wall : NOk ["k"] 1 (defScope S__wall) := ⟨sc__wall.nd, by decide +kernel⟩
abbrev S_BadMode___init__ : Stmt := inClass (topS 3) 0
abbrev N_BadMode___init__ : List Str := ["self", "mode"]
abbrev S_BadStep___init__ : Stmt := inClass (topS 4) 0
abbrev N_BadStep___init__ : List Str := ["self", "number", "part"]
abbrev S_BadCount___init__ : Stmt := inClass (topS 5) 0
abbrev N_BadCount___init__ : List Str := ["self", "count"]
abbrev S_BadChoice___init__ : Stmt := inClass (topS 6) 0
abbrev N_BadChoice___init__ : List Str := ["self", "what"]
abbrev S_NoStep___init__ : Stmt := inClass (topS 7) 0
abbrev N_NoStep___init__ : List Str := ["self", "number"]
abbrev S_check_mode : Stmt := topS 10
abbrev N_check_mode : List Str := ["mode"]
theorem sc_check_mode : FnScope ["mode"] ["mode"] (defScope S_check_mode) := ⟨rfl, rfl, rfl, by decide +kernel, rfl, by decide +kernel, by decide +kernel⟩
theorem nk_check_mode : NOk ["mode"] 1 (defScope S_check_mode) := ⟨sc_check_mode.nd, by decide +kernel⟩
abbrev S_Step___init__ : Stmt := inClass (topS 12) 0
abbrev N_Step___init__ : List Str := ["self", "operation", "left", "right", "mode"]
theorem sc_Step___init__ : FnScope ["self", "operation", "left", "right", "mode"] ["self", "operation", "left", "right", "mode"] (defScope S_Step___init__) := ⟨rfl, rfl, rfl, by decide +kernel, rfl, by decide +kernel, by decide +kernel⟩
theorem nk_Step___init__ : NOk ["self", "operation", "left", "right", "mode"] 5 (defScope S_Step___init__) := ⟨sc_Step___init__.nd, by decide +kernel⟩
abbrev S_Step___eq__ : Stmt := inClass (topS 12) 1
abbrev N_Step___eq__ : List Str := ["self", "other"]
theorem sc_Step___eq__ : FnScope ["self", "other"] ["self", "other"] (defScope S_Step___eq__) := ⟨rfl, rfl, rfl, by decide +kernel, rfl, by decide +kernel, by decide +kernel⟩
theorem nk_Step___eq__ : NOk ["self", "other"] 2 (defScope S_Step___eq__) := ⟨sc_Step___eq__.nd, by decide +kernel⟩
abbrev S_Program___init__ : Stmt := inClass (topS 13) 1
abbrev N_Program___init__ : List Str := ["self", "steps", "number", "step", "part"]
theorem sc_Program___init__ : FnScope ["self", "steps", "number", "step", "part"] ["self", "steps"] (defScope S_Program___init__) := ⟨rfl, rfl, rfl, by decide +kernel, rfl, by decide +kernel, by decide +kernel⟩
theorem nk_Program___init__ : NOk ["self", "steps", "number", "step", "part"] 5 (defScope S_Program___init__) := ⟨sc_Program___init__.nd, by decide +kernel⟩
abbrev S_Program___len__ : Stmt := inClass (topS 13) 2
abbrev N_Program___len__ : List Str := ["self"]
theorem sc_Program___len__ : FnScope ["self"] ["self"] (defScope S_Program___len__) := ⟨rfl, rfl, rfl, by decide +kernel, rfl, by decide +kernel, by decide +kernel⟩
theorem nk_Program___len__ : NOk ["self"] 1 (defScope S_Program___len__) := ⟨sc_Program___len__.nd, by decide +kernel⟩
abbrev S_Program___iter__ : Stmt := inClass (topS 13) 3
abbrev N_Program___iter__ : List Str := ["self"]
theorem sc_Program___iter__ : FnScope ["self"] ["self"] (defScope S_Program___iter__) := ⟨rfl, rfl, rfl, by decide +kernel, rfl, by decide +kernel, by decide +kernel⟩
theorem nk_Program___iter__ : NOk ["self"] 1 (defScope S_Program___iter__) := ⟨sc_Program___iter__.nd, by decide +kernel⟩
abbrev S_Program___getitem__ : Stmt := inClass (topS 13) 4
abbrev N_Program___getitem__ : List Str := ["self", "at"]
theorem sc_Program___getitem__ : FnScope ["self", "at"] ["self", "at"] (defScope S_Program___getitem__) := ⟨rfl, rfl, rfl, by decide +kernel, rfl, by decide +kernel, by decide +kernel⟩
theorem nk_Program___getitem__ : NOk ["self", "at"] 2 (defScope S_Program___getitem__) := ⟨sc_Program___getitem__.nd, by decide +kernel⟩
abbrev S_Program___add__ : Stmt := inClass (topS 13) 5
abbrev N_Program___add__ : List Str := ["self", "other"]
theorem sc_Program___add__ : FnScope ["self", "other"] ["self", "other"] (defScope S_Program___add__) := ⟨rfl, rfl, rfl, by decide +kernel, rfl, by decide +kernel, by decide +kernel⟩
theorem nk_Program___add__ : NOk ["self", "other"] 2 (defScope S_Program___add__) := ⟨sc_Program___add__.nd, by decide +kernel⟩
abbrev S_Program___eq__ : Stmt := inClass (topS 13) 6
abbrev N_Program___eq__ : List Str := ["self", "other"]
theorem sc_Program___eq__ : FnScope ["self", "other"] ["self", "other"] (defScope S_Program___eq__) := ⟨rfl, rfl, rfl, by decide +kernel, rfl, by decide +kernel, by decide +kernel⟩
theorem nk_Program___eq__ : NOk ["self", "other"] 2 (defScope S_Program___eq__) := ⟨sc_Program___eq__.nd, by decide +kernel⟩
abbrev S_Program_run : Stmt := inClass (topS 13) 7
abbrev N_Program_run : List Str := ["self", "grid", "first", "second"]
theorem sc_Program_run : FnScope ["self", "grid", "first", "second"] ["self", "grid", "first", "second"] (defScope S_Program_run) := ⟨rfl, rfl, rfl, by decide +kernel, rfl, by decide +kernel, by decide +kernel⟩
theorem nk_Program_run : NOk ["self", "grid", "first", "second"] 4 (defScope S_Program_run) := ⟨sc_Program_run.nd, by decide +kernel⟩
abbrev S_Program_last : Stmt := inClass (topS 13) 8
abbrev N_Program_last : List Str := ["self", "grid", "first", "second"]
theorem sc_Program_last : FnScope ["self", "grid", "first", "second"] ["self", "grid", "first", "second"] (defScope S_Program_last) := ⟨rfl, rfl, rfl, by decide +kernel, rfl, by decide +kernel, by decide +kernel⟩
theorem nk_Program_last : NOk ["self", "grid", "first", "second"] 4 (defScope S_Program_last) := ⟨sc_Program_last.nd, by decide +kernel⟩
abbrev S_Program_trace : Stmt := inClass (topS 13) 9
abbrev N_Program_trace : List Str := ["self", "grid", "first", "second"]
theorem sc_Program_trace : FnScope ["self", "grid", "first", "second"] ["self", "grid", "first", "second"] (defScope S_Program_trace) := ⟨rfl, rfl, rfl, by decide +kernel, rfl, by decide +kernel, by decide +kernel⟩
theorem nk_Program_trace : NOk ["self", "grid", "first", "second"] 4 (defScope S_Program_trace) := ⟨sc_Program_trace.nd, by decide +kernel⟩
abbrev S_Program_mirrored : Stmt := inClass (topS 13) 10
abbrev N_Program_mirrored : List Str := ["self"]
theorem sc_Program_mirrored : FnScope ["self"] ["self"] (defScope S_Program_mirrored) := ⟨rfl, rfl, rfl, by decide +kernel, rfl, by decide +kernel, by decide +kernel⟩
theorem nk_Program_mirrored : NOk ["self"] 1 (defScope S_Program_mirrored) := ⟨sc_Program_mirrored.nd, by decide +kernel⟩
abbrev S_Program_swapped : Stmt := inClass (topS 13) 11
abbrev N_Program_swapped : List Str := ["self"]
theorem sc_Program_swapped : FnScope ["self"] ["self"] (defScope S_Program_swapped) := ⟨rfl, rfl, rfl, by decide +kernel, rfl, by decide +kernel, by decide +kernel⟩
theorem nk_Program_swapped : NOk ["self"] 1 (defScope S_Program_swapped) := ⟨sc_Program_swapped.nd, by decide +kernel⟩
abbrev S_invalid_part : Stmt := topS 14
abbrev N_invalid_part : List Str := ["step", "number"]
theorem sc_invalid_part : FnScope ["step", "number"] ["step", "number"] (defScope S_invalid_part) := ⟨rfl, rfl, rfl, by decide +kernel, rfl, by decide +kernel, by decide +kernel⟩
theorem nk_invalid_part : NOk ["step", "number"] 2 (defScope S_invalid_part) := ⟨sc_invalid_part.nd, by decide +kernel⟩
abbrev S_spread : Stmt := topS 18
abbrev N_spread : List Str := ["modes", "many", "mode"]
theorem sc_spread : FnScope ["modes", "many", "mode"] ["modes", "many"] (defScope S_spread) := ⟨rfl, rfl, rfl, by decide +kernel, rfl, by decide +kernel, by decide +kernel⟩
theorem nk_spread : NOk ["modes", "many", "mode"] 3 (defScope S_spread) := ⟨sc_spread.nd, by decide +kernel⟩
abbrev S_check_choices : Stmt := topS 19
abbrev N_check_choices : List Str := ["first", "operation"]
theorem sc_check_choices : FnScope ["first", "operation"] ["first", "operation"] (defScope S_check_choices) := ⟨rfl, rfl, rfl, by decide +kernel, rfl, by decide +kernel, by decide +kernel⟩
theorem nk_check_choices : NOk ["first", "operation"] 2 (defScope S_check_choices) := ⟨sc_check_choices.nd, by decide +kernel⟩
abbrev S_built : Stmt := topS 20
abbrev N_built : List Str := ["rows", "modes", "steps", "operation", "left", "right", "mode"]
theorem sc_built : FnScope ["rows", "modes", "steps", "operation", "left", "right", "mode"] ["rows", "modes"] (defScope S_built) := ⟨rfl, rfl, rfl, by decide +kernel, rfl, by decide +kernel, by decide +kernel⟩
theorem nk_built : NOk ["rows", "modes", "steps", "operation", "left", "right", "mode"] 7 (defScope S_built) := ⟨sc_built.nd, by decide +kernel⟩
abbrev S_three : Stmt := topS 21
abbrev N_three : List Str := ["first", "operation", "modes", "each"]
theorem sc_three : FnScope ["first", "operation", "modes", "each"] ["first", "operation", "modes"] (defScope S_three) := ⟨rfl, rfl, rfl, by decide +kernel, rfl, by decide +kernel, by decide +kernel⟩
theorem nk_three : NOk ["first", "operation", "modes", "each"] 4 (defScope S_three) := ⟨sc_three.nd, by decide +kernel⟩
abbrev S_six : Stmt := topS 22
abbrev N_six : List Str := ["first", "operation", "modes", "each"]
theorem sc_six : FnScope ["first", "operation", "modes", "each"] ["first", "operation", "modes"] (defScope S_six) := ⟨rfl, rfl, rfl, by decide +kernel, rfl, by decide +kernel, by decide +kernel⟩
theorem nk_six : NOk ["first", "operation", "modes", "each"] 4 (defScope S_six) := ⟨sc_six.nd, by decide +kernel⟩
abbrev S__law_source : Stmt := topS 24
abbrev N__law_source : List Str := ["script", "cell"]
theorem sc__law_source : FnScope ["script", "cell"] ["script"] (defScope S__law_source) := ⟨rfl, rfl, rfl, by decide +kernel, rfl, by decide +kernel, by decide +kernel⟩
theorem nk__law_source : NOk ["script", "cell"] 1 (defScope S__law_source) := ⟨sc__law_source.nd, by decide +kernel⟩
abbrev S__law_draw : Stmt := topS 25
abbrev N__law_draw : List Str := ["source", "many", "cell", "size", "value", "mixed"]
theorem sc__law_draw : FnScope ["source", "many", "cell", "size", "value", "mixed"] ["source", "many"] (defScope S__law_draw) := ⟨rfl, rfl, rfl, by decide +kernel, rfl, by decide +kernel, by decide +kernel⟩
theorem nk__law_draw : NOk ["source", "many", "cell", "size", "value", "mixed"] 6 (defScope S__law_draw) := ⟨sc__law_draw.nd, by decide +kernel⟩
abbrev S__law_modes : Stmt := topS 26
abbrev N__law_modes : List Str := ["near"]
theorem sc__law_modes : FnScope ["near"] [] (defScope S__law_modes) := ⟨rfl, rfl, rfl, by decide +kernel, rfl, by decide +kernel, by decide +kernel⟩
theorem nk__law_modes : NOk ["near"] 1 (defScope S__law_modes) := ⟨sc__law_modes.nd, by decide +kernel⟩
abbrev S__law_mode : Stmt := topS 27
abbrev N__law_mode : List Str := ["source"]
theorem sc__law_mode : FnScope ["source"] ["source"] (defScope S__law_mode) := ⟨rfl, rfl, rfl, by decide +kernel, rfl, by decide +kernel, by decide +kernel⟩
theorem nk__law_mode : NOk ["source"] 1 (defScope S__law_mode) := ⟨sc__law_mode.nd, by decide +kernel⟩
abbrev S__law_equal : Stmt := topS 28
abbrev N__law_equal : List Str := ["actual", "expected", "k"]
theorem sc__law_equal : FnScope ["actual", "expected", "k"] ["actual", "expected"] (defScope S__law_equal) := ⟨rfl, rfl, rfl, by decide +kernel, rfl, by decide +kernel, by decide +kernel⟩
theorem nk__law_equal : NOk ["actual", "expected", "k"] 3 (defScope S__law_equal) := ⟨sc__law_equal.nd, by decide +kernel⟩
abbrev S__law_rows : Stmt := topS 29
abbrev N__law_rows : List Str := ["kind", "first", "operation"]
theorem sc__law_rows : FnScope ["kind", "first", "operation"] ["kind", "first", "operation"] (defScope S__law_rows) := ⟨rfl, rfl, rfl, by decide +kernel, rfl, by decide +kernel, by decide +kernel⟩
theorem nk__law_rows : NOk ["kind", "first", "operation"] 3 (defScope S__law_rows) := ⟨sc__law_rows.nd, by decide +kernel⟩
abbrev S__law_program : Stmt := topS 30
abbrev N__law_program : List Str := ["rows", "modes", "program", "k"]
theorem sc__law_program : FnScope ["rows", "modes", "program", "k"] ["rows", "modes"] (defScope S__law_program) := ⟨rfl, rfl, rfl, by decide +kernel, rfl, by decide +kernel, by decide +kernel⟩
theorem nk__law_program : NOk ["rows", "modes", "program", "k"] 4 (defScope S__law_program) := ⟨sc__law_program.nd, by decide +kernel⟩
abbrev S__law_three : Stmt := topS 31
abbrev N__law_three : List Str := ["m", "way", "first", "operation"]
theorem sc__law_three : FnScope ["m", "way", "first", "operation"] ["m", "way", "first", "operation"] (defScope S__law_three) := ⟨rfl, rfl, rfl, by decide +kernel, rfl, by decide +kernel, by decide +kernel⟩
theorem nk__law_three : NOk ["m", "way", "first", "operation"] 4 (defScope S__law_three) := ⟨sc__law_three.nd, by decide +kernel⟩
abbrev S__law_six : Stmt := topS 32
abbrev N__law_six : List Str := ["m", "way", "first", "operation"]
theorem sc__law_six : FnScope ["m", "way", "first", "operation"] ["m", "way", "first", "operation"] (defScope S__law_six) := ⟨rfl, rfl, rfl, by decide +kernel, rfl, by decide +kernel, by decide +kernel⟩
theorem nk__law_six : NOk ["m", "way", "first", "operation"] 4 (defScope S__law_six) := ⟨sc__law_six.nd, by decide +kernel⟩
abbrev S__law_case : Stmt := topS 33
abbrev N__law_case : List Str := ["source", "kind", "way", "first", "operation", "rows", "many", "modes", "k"]
theorem sc__law_case : FnScope ["source", "kind", "way", "first", "operation", "rows", "many", "modes", "k"] ["source"] (defScope S__law_case) := ⟨rfl, rfl, rfl, by decide +kernel, rfl, by decide +kernel, by decide +kernel⟩
theorem nk__law_case : NOk ["source", "kind", "way", "first", "operation", "rows", "many", "modes", "k"] 8 (defScope S__law_case) := ⟨sc__law_case.nd, by decide +kernel⟩
abbrev S__law_right : Stmt := topS 34
abbrev N__law_right : List Str := ["case", "kind", "way", "first", "operation", "modes", "rows", "each", "program", "due", "row", "k", "step"]
theorem sc__law_right : FnScope ["case", "kind", "way", "first", "operation", "modes", "rows", "each", "program", "due", "row", "k", "step"] ["case"] (defScope S__law_right) := ⟨rfl, rfl, rfl, by decide +kernel, rfl, by decide +kernel, by decide +kernel⟩
theorem nk__law_right : NOk ["case", "kind", "way", "first", "operation", "modes", "rows", "each", "program", "due", "row", "k", "step"] 10 (defScope S__law_right) := ⟨sc__law_right.nd, by decide +kernel⟩
abbrev S_law : Stmt := topS 35
abbrev N_law : List Str := ["script", "source", "cases", "k"]
theorem sc_law : FnScope ["script", "source", "cases", "k"] ["script"] (defScope S_law) := ⟨rfl, rfl, rfl, by decide +kernel, rfl, by decide +kernel, by decide +kernel⟩
theorem nk_law : NOk ["script", "source", "cases", "k"] 4 (defScope S_law) := ⟨sc_law.nd, by decide +kernel⟩
theorem ok_source {f : Addr} {fd : FuncData} (F : Fun K "_law_source" "_law_source" S__law_source f fd) (B : Blt mg) : FnOk P w K mg base (L2N.CX P w) 1 f fd ["script"] (spSrc K) := by
  have S := nk__law_source
  refine src_hide (F.okN sc__law_source (fun vs H Q E h => ?_) (fun cdv A outer s H vs Q E hr h => ?_)) (fun outer H s E e s' z => cxn_no z)
  · obtain ⟨a, ns, rfl, _⟩ := h; rfl
  · obtain ⟨a, ns, rfl, hs, hl, hQ⟩ := h
    show ZSs _ _ _ _ _ _ [some (.ref a), none] H
    refine zss_one (zs_ret (ze_lst ?_))
    fail "za"
    refine ze_lcL (own := [("cell", 1)]) rfl sc__law_source.nd (blkOk_by (show blkC ["script", "cell"] (defScope S__law_source) _ _ = true by decide +kernel)) ?_
    fail "z"
    refine ⟨a, _, rfl, hs, fun D hD => ⟨fun i H' => i ≤ ns.length ∧ H' = upd H D (.lst ((ns.map V.int).take i)), ⟨Nat.zero_le _, by simp⟩, fun i H' _ h => ?_, fun i x H' hx h => ?_, fun H' h => ?_⟩⟩
    · obtain ⟨_, rfl⟩ := h
      exact Same.seq (Same.new (Same.refl _) hD) hs
    · obtain ⟨hi, rfl⟩ := h
      obtain ⟨c, hc, rfl⟩ := map_get hx
      have hlt : i < ns.length := (List.getElem?_eq_some_iff.mp hc).1
      refine fun s1 H1 C cl fp => zg_name 1 sc__law_source.nd rfl ?_ (.inl rfl) (.inr rfl)
      refine ⟨rfl, fun s1 H1 C cl fp => ?_⟩
      refine zc_int B ?_
      refine za_cons (ze_var 1 rfl rfl (za_nil ?_))
      refine cw_int ?_
      refine ⟨_, upd_same, by rw [List.length_take, List.length_map]; have : ns.length ≤ 1000 := hl; have : sizeLine = 16777216 := sizeLine_eq; omega, by omega, ?_⟩
      rw [upd_upd, List.take_succ, hx]
      rfl
    · obtain ⟨_, rfl⟩ := h
      fail "za"
      rename_i p hp
      have np : p ≠ D := upd_no_ne hp.e
      refine hQ p D _ (upd_no hp.e) hD (Same.new (Same.new (Same.refl _) hD) hp.e) np upd_same ?_
      rw [upd_ne np.symm, upd_same, List.take_of_length_le (by rw [List.length_map]; exact Nat.le_refl _)]

theorem ok_draw {f : Addr} {fd : FuncData} (F : Fun K "_law_draw" "_law_draw" S__law_draw f fd) (B : Blt mg) : FnOk P w K mg base (L2N.CX P w) 1 f fd ["source", "many"] spDraw := by
  have S := nk__law_draw
  refine draw_hide (F.okN sc__law_draw (fun vs H Q E h => ?_) (fun cdv A outer s H vs Q E hr h => ?_)) (fun outer H s E e s' z => cxn_no z)
  · obtain ⟨p, q, many, i, x1, x2, x3, ns, rfl, _⟩ := h; rfl
  · obtain ⟨p, q, many, i, x1, x2, x3, ns, rfl, hm, hm2, hp, hi, hq, hl, hQ⟩ := h
    unfold srcL at hp hQ
    have npq : q ≠ p := fun e => by
      rw [e, hp] at hq
      have z := HO.lst.inj (Option.some.inj hq)
      have z2 := congrArg (fun l : List V => l[4]?) z
      simp only [List.getElem?_map] at z2
      cases e4 : ns[4]? <;> rw [e4] at z2 <;> simp at z2
    have fin : ∀ (H' : Hp) (v i' x1' x2' x3' : Int), H' = upd H p (.lst [.int i', .int x1', .int x2', .int x3', .ref q]) → 0 ≤ i' → Q (.int (v % many)) H' := fun H' v i' x1' x2' x3' e h => by
      rw [e]; exact hQ _ _ _ _ _ (Int.emod_nonneg _ (by omega)) (Int.emod_lt_of_pos _ hm) h
    show ZSs _ _ _ _ _ _ [some (.ref p), some (.int many), none, none, none, none] H
    refine zss_cons ?_
    fail "za"
    · have := hQ 0 i x1 x2 x3 (Int.le_refl _) hm hi
      rwa [upd_id hp] at this
    · rename_i h1 h2 h3
      obtain ⟨v, hv, hv2⟩ := atI_lt hi (show i < (ns.map V.int).length by omega)
      obtain ⟨c, hc, rfl⟩ := map_get hv
      refine xw_lst (SqL.of hq) hv2 ?_
      fail "za"
      all_goals exact fin _ _ _ _ _ _ (by simp only [upd_upd]; rfl) (by omega)
    all_goals exact fin _ _ _ _ _ _ (by first | rfl | (simp only [upd_upd]; rfl)) (by omega)

local macro_rules | `(tactic| fail "zty") => `(tactic| first | exact TyX.ofL (by assumption) | exact TyX.ofT (by assumption))
theorem ok_equal {f : Addr} {fd : FuncData} (F : Fun K "_law_equal" "_law_equal" S__law_equal f fd) (B : Blt mg) (gm : mg "_law_equal" = some (.ref f)) (kp : PySem.W.keepIn K (.ref f) = true) (hb : Binds K fd ["actual", "expected"] []) :
    ∀ n, FnOk P w K mg base (L2N.CX P w) (n + 1) f fd ["actual", "expected"] (spDq K n) := by
  have S := nk__law_equal
  intro n
  induction n with
  | zero =>
    refine F.okN sc__law_equal (fun vs H Q E h => ?_) (fun cdv A outer s H vs Q E hr h => ?_)
    · obtain ⟨x, y, rfl, _⟩ := h; rfl
    · obtain ⟨x, y, rfl, hd, hQ⟩ := h
      cases hd
      all_goals
        show ZSs _ _ _ _ _ _ [some _, some _, none] H
        fail "z0"
        all_goals first | (simp; exact hQ) | (simp_all; done)
  | succ n ih =>
    have c : Cal P w K mg base (n + 1) "_law_equal" (spDq K n) := ⟨f, fd, _, [], [], _, ih, gm, kp, hb, .nil, fun vs H Q E h => by rw [List.append_nil]; exact h⟩
    refine F.okN sc__law_equal (fun vs H Q E h => ?_) (fun cdv A outer s H vs Q E hr h => ?_)
    · obtain ⟨x, y, rfl, _⟩ := h; rfl
    · obtain ⟨x, y, rfl, hd, hQ⟩ := h
      cases hd with
      | non | bl | int | str =>
        show ZSs _ _ _ _ _ _ [some _, some _, none] H
        fail "z0"
        all_goals first | (simp; exact hQ) | (simp_all; done)
      | lst hx hy hz hl hh =>
        rename_i p q xs ys
        show ZSs _ _ _ _ _ _ [some _, some _, none] H
        fail "z0"
        all_goals try (exfalso; omega)
        refine zs_forR pass_def rfl B.range ?_
        fail "zz"
        rw [sizeLine_eq] at hz
        refine ⟨by omega, by omega, fun i σ H' => ∃ o, σ = [some (.ref p), some (.ref q), o] ∧ H' = H, ⟨_, rfl, rfl⟩, ?_, ?_⟩
        · rintro i σ H' hi ⟨o, rfl, rfl⟩
          have hi1 : i < xs.length := by omega
          have hi2 : i < ys.length := by omega
          fail "zz"
          refine xw_lst hx (atI_nat (List.getElem?_eq_getElem hi1)) ?_
          fail "zz"
          refine xw_lst hy (atI_nat (List.getElem?_eq_getElem hi2)) ?_
          fail "zz"
          refine equal_do (hh i _ _ (List.getElem?_eq_getElem hi1) (List.getElem?_eq_getElem hi2)) ?_
          fail "za"
          rfl
        · rintro σ H' ⟨o, rfl, rfl⟩
          fail "zz"
          exact hQ
      | tup hx hy hz hl hh =>
        rename_i p q xs ys
        show ZSs _ _ _ _ _ _ [some _, some _, none] H
        fail "z0"
        all_goals try (exfalso; omega)
        refine zs_forR pass_def rfl B.range ?_
        fail "zz"
        rw [sizeLine_eq] at hz
        refine ⟨by omega, by omega, fun i σ H' => ∃ o, σ = [some (.ref p), some (.ref q), o] ∧ H' = H, ⟨_, rfl, rfl⟩, ?_, ?_⟩
        · rintro i σ H' hi ⟨o, rfl, rfl⟩
          have hi1 : i < xs.length := by omega
          have hi2 : i < ys.length := by omega
          fail "zz"
          refine xw_tup hx (atI_nat (List.getElem?_eq_getElem hi1)) ?_
          fail "zz"
          refine xw_tup hy (atI_nat (List.getElem?_eq_getElem hi2)) ?_
          fail "zz"
          refine equal_do (hh i _ _ (List.getElem?_eq_getElem hi1) (List.getElem?_eq_getElem hi2)) ?_
          fail "za"
          rfl
        · rintro σ H' ⟨o, rfl, rfl⟩
          fail "zz"
          exact hQ
/-- the same of plain data, within an except suite -/
theorem ok_equalH {f : Addr} {fd : FuncData} (F : Fun K "_law_equal" "_law_equal" S__law_equal f fd) (B : Blt mg) : L2H.FnH P w K mg base (L2N.CX P w) 1 f fd ["actual", "expected"] spEqS := by
  have S := nk__law_equal
  refine FunH.ok F sc__law_equal (fun vs H Q E h => ?_) (fun cdv A outer s H vs Q E p hot hr h => ?_)
  · obtain ⟨x, rfl, _⟩ := h; rfl
  · obtain ⟨x, rfl, hd, hQ⟩ := h
    cases hd
    all_goals
      show ZSs _ _ _ _ _ _ [some _, some _, none] H
      refine zss_cons ?_
      fail "za"
      all_goals first | (simp; exact hQ) | (simp_all; done)

def modes : List Str := ["nearest-even", "nearest-out", "nearest-in", "nearest-up", "nearest-down", "inward", "outward", "upward", "downward"]
def nears : List Str := ["nearest-even", "nearest-out", "nearest-in", "nearest-up", "nearest-down"]
def goesUp (m : Str) (pos : Bool) : Bool := if m = "inward" then !pos else if m = "outward" then pos else decide (m = "upward")
def direc (m : Str) (s : Int) : Str := if m ∈ nears then "near" else if goesUp m (decide (0 < s)) = decide (0 < s) then "out" else "in"
def spModes : Sp := fun vs H Q _ => vs = [] ∧ ∀ p H', H p = none → Same H H' → H' p = some (.lst (modes.map V.str)) → Q (.ref p) H'
def spMode : Sp := fun vs H Q _ => ∃ p, vs = [.ref p] ∧ Src H p ∧ ∀ m H', m ∈ modes → Same H H' → Q (.str m) H'
theorem modes_do {H : Hp} {Q : VK} {E : XK} (h : ∀ p H', NoA H p → Same H H' → H' p = some (.lst (modes.map V.str)) → Q (.ref p) H') : spModes [] H Q E := ⟨rfl, fun p H' n => h p H' ⟨n⟩⟩
theorem mode_do {p : Addr} {H : Hp} {Q : VK} {E : XK} (h3 : Src H p) (h : ∀ m H', m ∈ modes → Same H H' → Q (.str m) H') : spMode [.ref p] H Q E := ⟨p, rfl, h3, h⟩
local macro_rules | `(tactic| fail "zP") => `(tactic| (with_reducible refine modes_do ?_); intro _ _ _ _ _)
local macro_rules | `(tactic| fail "zP") => `(tactic| (with_reducible refine' mode_do ?h3 (fun _ _ _ _ => ?h)); (case h3 => fail "zsrc"))
theorem ok_modes {f : Addr} {fd : FuncData} (F : Fun K "_law_modes" "_law_modes" S__law_modes f fd) : FnOk P w K mg base (L2N.CX P w) 1 f fd [] spModes := by
  have S := nk__law_modes
  refine F.okN sc__law_modes (fun vs H Q E h => ?_) (fun cdv A outer s H vs Q E hr h => ?_)
  · obtain ⟨rfl, _⟩ := h; rfl
  · obtain ⟨rfl, hQ⟩ := h
    show ZSs _ _ _ _ _ _ [none] H
    fail "z0"
    refine hQ _ _ ?_ ?_ ?_
    · fail "zno"
    · fail "zsm"
    · exact upd_same
theorem ok_mode {f : Addr} {fd : FuncData} (F : Fun K "_law_mode" "_law_mode" S__law_mode f fd) (c1 : Cal P w K mg base 1 "_law_draw" spDraw) (c2 : Cal P w K mg base 1 "_law_modes" spModes) : FnOk P w K mg base (L2N.CX P w) 2 f fd ["source"] spMode := by
  have S := nk__law_mode
  refine F.okN sc__law_mode (fun vs H Q E h => ?_) (fun cdv A outer s H vs Q E hr h => ?_)
  · obtain ⟨p, rfl, _⟩ := h; rfl
  · obtain ⟨p, rfl, hs, hQ⟩ := h
    show ZSs _ _ _ _ _ _ [some (.ref p)] H
    fail "z0"
    rename_i q H1 _ s1 hq v h0 h9
    obtain ⟨x, hx, hx2⟩ := atI_lt h0 (show v < (modes.map V.str).length by exact h9)
    obtain ⟨m, hm, rfl⟩ := map_get hx
    refine xw_lst (SqL.of hq) hx2 ?_
    exact hQ _ _ (List.mem_of_getElem? hm) s1


/-- a statement by its own end: Iv -/
theorem zss_cut {X : Cx} {s : Stmt} {rest : List Stmt} {nx bk ct : NX} {rt : VK} {σ : L2.St} {H : Hp} (Iv : L2.St → Hp → Prop) (h1 : ∀ nx' : NX, (∀ σ1 H1, Iv σ1 H1 → nx' σ1 H1) → ZS X s nx' rt bk ct σ H) (h2 : ∀ σ1 H1, Iv σ1 H1 → ZSs X rest nx rt bk ct σ1 H1) : ZSs X (s :: rest) nx rt bk ct σ H := zss_cons (h1 _ h2)

/-! check_mode alone (of parts/chk) -/
def spChk (C : Addr) : Sp := fun vs H Q E => ∃ z : Str, vs = [.str z] ∧ (z ∈ modes → Q .non H) ∧ (z ∉ modes → ∀ d, H d = none → E (.ref C) (some d) (upd H d (.xd [("mode", .str z)])))
theorem chk_do {C : Addr} {z : Str} {H : Hp} {Q : VK} {E : XK} (h : z ∈ modes → Q .non H) (h2 : z ∉ modes → ∀ d, NoA H d → E (.ref C) (some d) (upd H d (.xd [("mode", .str z)]))) : spChk C [.str z] H Q E := ⟨z, rfl, h, fun hz d n => h2 hz d ⟨n⟩⟩
local macro_rules | `(tactic| fail "zP") => `(tactic| (with_reducible refine chk_do (fun _ => ?_) (fun _ _ _ => ?_)))
theorem ok_check {f C aM : Addr} {fd : FuncData} (F : Fun K "check_mode" "check_mode" S_check_mode f fd) (gM : mg "MODES" = some (.ref aM)) (tM : ∀ H, SqT K H aM (modes.map V.str)) (cB : XCls P K mg "BadMode" C ["mode"]) : FnOk P w K mg base (L2N.CX P w) 2 f fd ["mode"] (spChk C) := by
  have S := nk_check_mode
  refine F.okN sc_check_mode (fun vs H Q E h => ?_) (fun cdv A outer s H vs Q E hr h => ?_)
  · obtain ⟨z, rfl, _⟩ := h; rfl
  · obtain ⟨z, rfl, h1, h2⟩ := h
    have tM := tM H
    show ZSs _ _ _ _ _ _ [some (.str z)] H
    fail "z0"
    · exact h2 (by have := ‹inV _ _ = false›; rw [inV_str] at this; simpa using this) _ (by fail "zno")
    · exact h1 (by have := ‹inV _ _ = true›; rw [inV_str] at this; simpa using this)

/-! Step, Program -/
structure Stp where
  op : Str
  l : Int
  r : Int
  m : Str
def fsS (s : Stp) : List (Str × V) := [("operation", .str s.op), ("left", .int s.l), ("right", .int s.r), ("mode", .str s.m)]
/-- a step at p -/
def StF (C : Addr) (H : Hp) (p : Addr) (s : Stp) : Prop := ∃ dx, H p = some (.ins C dx (fsS s))
theorem StF.same {C p : Addr} {H H' : Hp} {s : Stp} (h : StF C H p s) (t : Same H H') : StF C H' p s := ⟨_, t _ _ h.choose_spec⟩
/-- what the written part says of Step -/
structure StTxt (K : PySem.W.Frag) (mg : Str → Option Value) (C : Addr) : Prop where
  I : ClsI K C
  g : mg "Step" = some (.ref C)
  no : NoAttr K C "operation"
  nl : NoAttr K C "left"
  nr : NoAttr K C "right"
  nm : NoAttr K C "mode"
abbrev FStep (K : PySem.W.Frag) (f : Addr) (fd : FuncData) : Prop := FunD K "__init__" "Step.__init__" (defArgs S_Step___init__) (defBody S_Step___init__) (defScope S_Step___init__) [.str "nearest-even"] [] f fd
abbrev psStep : List Str := ["self", "operation", "left", "right", "mode"]
def spStI (C : Addr) : Sp := fun vs H Q _ => ∃ (p dx : Addr) (s : Stp), vs = [.ref p, .str s.op, .int s.l, .int s.r, .str s.m] ∧ H p = some (.ins C dx []) ∧ ∀ H', (∀ a o, a ≠ p → H a = some o → H' a = some o) → H' p = some (.ins C dx (fsS s)) → Q .non H'
theorem ok_sini {f C : Addr} {fd : FuncData} (F : FStep K f fd) (T : StTxt K mg C) : FnOk P w K mg base (L2N.CX P w) 1 f fd psStep (spStI C) := by
  have S := nk_Step___init__
  obtain ⟨I, g, no, nl, nr, nm⟩ := T
  have cl := I.cl
  refine F.okN sc_Step___init__ (fun vs H Q E h => ?_) (fun cdv A outer s H vs Q E hr h => ?_)
  · obtain ⟨p, dx, s, rfl, _⟩ := h; rfl
  · obtain ⟨p, dx, st, rfl, hp, hQ⟩ := h
    show ZSs _ _ _ _ _ _ [some (.ref p), some (.str _), some (.int _), some (.int _), some (.str _)] H
    fail "z0"
    exact hQ _ (fun a o na ha => by rw [upd_ne na, upd_ne na, upd_ne na, upd_ne na]; exact ha) upd_same
def spSt (C : Addr) : Sp := fun vs H Q _ => ∃ (p dx : Addr) (s : Stp), (vs = [.ref p, .str s.op, .int s.l, .int s.r, .str s.m] ∨ vs = [.ref p, .str s.op, .int s.l, .int s.r] ∧ s.m = "nearest-even") ∧ H p = some (.ins C dx []) ∧ ∀ H', (∀ a o, a ≠ p → H a = some o → H' a = some o) → H' p = some (.ins C dx (fsS s)) → Q .non H'
theorem step_cal {f C : Addr} {fd : FuncData} (M : L2.Mk K C f) (b5 : Binds K fd psStep []) (b4 : ∃ ds, Vals [V.str "nearest-even"] ds ∧ Binds K fd psStep ds) (gm : mg "Step" = some (.ref C)) (ok : FnOk P w K mg base (L2N.CX P w) 1 f fd psStep (spStI C)) : CalC P w K mg base 1 "Step" C (spSt C) := by
  obtain ⟨ds, v, b4⟩ := b4
  refine ⟨f, fd, _, _, M, ok, gm, fun vs H Q E h => ?_⟩
  obtain ⟨p, dx, s, rfl | ⟨rfl, hm⟩, hp, hQ⟩ := h
  · exact ⟨[], [], b5, .nil, p, dx, s, rfl, hp, hQ⟩
  · exact ⟨_, _, b4, v, p, dx, s, by rw [hm]; rfl, hp, hQ⟩
theorem st_do {C p dx : Addr} {op m : Str} {l r : Int} {H : Hp} {Q : VK} {E : XK} (n1 : NoA H p) (n2 : NoA H dx) (h : ∀ H', Same H H' → StF C H' p ⟨op, l, r, m⟩ → Q .non H') : spSt C [.ref p, .str op, .int l, .int r, .str m] (upd (upd H dx (.own p)) p (.ins C dx [])) Q E := by
  have s1 : Same H (upd (upd H dx (.own p)) p (.ins C dx [])) := .put (.put (.refl _) n2.e) n1.e
  exact ⟨p, dx, ⟨op, l, r, m⟩, .inl rfl, upd_same, fun H' kk hp => h H' (fun x o hx => kk x o (ne_of_none hx n1.e) (s1 x o hx)) ⟨dx, hp⟩⟩
theorem st_do3 {C p dx : Addr} {op : Str} {l r : Int} {H : Hp} {Q : VK} {E : XK} (n1 : NoA H p) (n2 : NoA H dx) (h : ∀ H', Same H H' → StF C H' p ⟨op, l, r, "nearest-even"⟩ → Q .non H') : spSt C [.ref p, .str op, .int l, .int r] (upd (upd H dx (.own p)) p (.ins C dx [])) Q E := by
  have s1 : Same H (upd (upd H dx (.own p)) p (.ins C dx [])) := .put (.put (.refl _) n2.e) n1.e
  exact ⟨p, dx, ⟨op, l, r, "nearest-even"⟩, .inr ⟨rfl, rfl⟩, upd_same, fun H' kk hp => h H' (fun x o hx => kk x o (ne_of_none hx n1.e) (s1 x o hx)) ⟨dx, hp⟩⟩
/-- the first invalid part of a step with the number n -/
def invP (s : Stp) (n : Int) : Option Str := if s.op ≠ "+" ∧ s.op ≠ "-" then some "operation" else if ¬ (0 ≤ s.l ∧ s.l ≤ n) then some "left" else if ¬ (0 ≤ s.r ∧ s.r ≤ n) then some "right" else if s.m ∉ modes then some "mode" else none
def oS : Option Str → V
  | none => .non
  | some z => .str z
def spInv (C : Addr) : Sp := fun vs H Q _ => ∃ (p : Addr) (s : Stp) (n : Int), vs = [.ref p, .int n] ∧ StF C H p s ∧ Q (oS (invP s n)) H
theorem inv_do {C p : Addr} {s : Stp} {n : Int} {H : Hp} {Q : VK} {E : XK} (h : StF C H p s) (q : Q (oS (invP s n)) H) : spInv C [.ref p, .int n] H Q E := ⟨p, s, n, rfl, h, q⟩
theorem ok_inv {f C aM : Addr} {fd : FuncData} (F : Fun K "invalid_part" "invalid_part" S_invalid_part f fd) (T : StTxt K mg C) (gM : mg "MODES" = some (.ref aM)) (tM : ∀ H, SqT K H aM (modes.map V.str)) : FnOk P w K mg base (L2N.CX P w) 1 f fd ["step", "number"] (spInv C) := by
  have S := nk_invalid_part
  obtain ⟨I, g, no, nl, nr, nm⟩ := T
  have cl := I.cl
  refine F.okN sc_invalid_part (fun vs H Q E h => ?_) (fun cdv A outer s H vs Q E hr h => ?_)
  · obtain ⟨p, s, n, rfl, _⟩ := h; rfl
  · obtain ⟨p, st, n, rfl, ⟨dx, hp⟩, hQ⟩ := h
    have tM := tM H
    unfold fsS at hp
    show ZSs _ _ _ _ _ _ [some (.ref p), some (.int n)] H
    fail "z0"
    all_goals
      unfold invP at hQ
      simp_all [inV_str, oS]
/-- steps at addresses -/
def Sts (C : Addr) (H : Hp) (qs : List Addr) (ss : List Stp) : Prop := qs.length = ss.length ∧ ∀ (i : Nat) (q : Addr) (s : Stp), qs[i]? = some q → ss[i]? = some s → StF C H q s
theorem Sts.same {C : Addr} {H H' : Hp} {qs : List Addr} {ss : List Stp} (h : Sts C H qs ss) (t : Same H H') : Sts C H' qs ss := ⟨h.1, fun i q s a b => (h.2 i q s a b).same t⟩
theorem Sts.keep {C p : Addr} {H H' : Hp} {qs : List Addr} {ss : List Stp} (h : Sts C H qs ss) (t : ∀ a o, a ≠ p → H a = some o → H' a = some o) (n : NoA H p) : Sts C H' qs ss := ⟨h.1, fun i q s a b => by
  obtain ⟨dx, e⟩ := h.2 i q s a b
  exact ⟨dx, t _ _ (ne_of_none e n.e) e⟩⟩
theorem Sts.snoc {C q : Addr} {H : Hp} {qs : List Addr} {ss : List Stp} {s : Stp} (h : Sts C H qs ss) (h2 : StF C H q s) : Sts C H (qs ++ [q]) (ss ++ [s]) := by
  refine ⟨by simp [h.1], fun i q' s' a b => ?_⟩
  by_cases z : i < qs.length
  · rw [List.getElem?_append_left z] at a
    rw [List.getElem?_append_left (by rw [← h.1]; exact z)] at b
    exact h.2 i q' s' a b
  · rw [List.getElem?_append_right (by omega)] at a
    rw [List.getElem?_append_right (by rw [← h.1]; omega), ← h.1] at b
    cases k : i - qs.length with
    | zero => rw [k] at a b; simp at a b; subst a; subst b; exact h2
    | succ n => rw [k] at a; simp at a
/-- a program at p -/
def PrF (CP CS : Addr) (H : Hp) (p : Addr) (ss : List Stp) : Prop := ∃ (dx l : Addr) (qs : List Addr), H p = some (.ins CP dx [("steps", .ref l)]) ∧ H l = some (.lst (qs.map V.ref)) ∧ Sts CS H qs ss
theorem PrF.same {CP CS p : Addr} {H H' : Hp} {ss : List Stp} (h : PrF CP CS H p ss) (t : Same H H') : PrF CP CS H' p ss := by
  obtain ⟨dx, l, qs, a, b, c⟩ := h
  exact ⟨dx, l, qs, t _ _ a, t _ _ b, c.same t⟩
/-- what becomes of a program that is asked for -/
structure POut (CP CS CC CB : Addr) (ss : List Stp) (H : Hp) (Q : Addr → Hp → Prop) (E : XK) : Prop where
  many : 12 < ss.length → ∀ d H', Same H H' → NoA H d → H' d = some (.xd [("count", .int ss.length)]) → E (.ref CC) (some d) H'
  bad : ss.length ≤ 12 → ∀ (i : Nat) (s : Stp) (z : Str), ss[i]? = some s → (∀ (j : Nat) (t : Stp), j < i → ss[j]? = some t → invP t ((j : Int) + 1) = none) → invP s ((i : Int) + 1) = some z → ∀ d H', Same H H' → NoA H d → H' d = some (.xd [("part", .str z), ("number", .int ((i : Int) + 1))]) → E (.ref CB) (some d) H'
  made : ss.length ≤ 12 → (∀ (i : Nat) (s : Stp), ss[i]? = some s → invP s ((i : Int) + 1) = none) → ∀ p H', Same H H' → NoA H p → PrF CP CS H' p ss → Q p H'
theorem POut.imp {CP CS CC CB : Addr} {ss : List Stp} {H : Hp} {Q Q' : Addr → Hp → Prop} {E : XK} (o : POut CP CS CC CB ss H Q E) (k : ∀ p H', Q p H' → Q' p H') : POut CP CS CC CB ss H Q' E := ⟨o.many, o.bad, fun a b p H' c d e => k _ _ (o.made a b p H' c d e)⟩
/-- what the written part says of Program -/
structure PrTxt (K : PySem.W.Frag) (mg : Str → Option Value) (C : Addr) : Prop where
  I : ClsI K C
  g : mg "Program" = some (.ref C)
  ns : NoAttr K C "steps"
  rd : ∃ mc, ClX.CRead K C mc ∧ (∃ u, ClX.CVal K C mc "MOST" (.int 12) u)
def spPB (CP CS CC CB : Addr) : Sp := fun vs H Q E => ∃ (p t dx : Addr) (qs : List Addr) (ss : List Stp), vs = [.ref p, .ref t] ∧ H p = some (.ins CP dx []) ∧ H t = some (.tup (qs.map V.ref)) ∧ Sts CS H qs ss ∧ qs.length ≤ 1000 ∧
  (12 < ss.length → ∀ d, NoA H d → E (.ref CC) (some d) (upd H d (.xd [("count", .int ss.length)]))) ∧
  (ss.length ≤ 12 → ∀ (i : Nat) (s : Stp) (z : Str), ss[i]? = some s → (∀ (j : Nat) (t : Stp), j < i → ss[j]? = some t → invP t ((j : Int) + 1) = none) → invP s ((i : Int) + 1) = some z → ∀ d, NoA H d → E (.ref CB) (some d) (upd H d (.xd [("part", .str z), ("number", .int ((i : Int) + 1))]))) ∧
  (ss.length ≤ 12 → (∀ (i : Nat) (s : Stp), ss[i]? = some s → invP s ((i : Int) + 1) = none) → ∀ l H', NoA H l → (∀ a o, a ≠ p → H a = some o → H' a = some o) → H' p = some (.ins CP dx [("steps", .ref l)]) → H' l = some (.lst (qs.map V.ref)) → Q .non H')
theorem inv_no {C p : Addr} {s : Stp} {n : Int} {H : Hp} {Q : VK} {E : XK} (e : invP s n = none) (h : StF C H p s) (q : Q .non H) : spInv C [.ref p, .int n] H Q E := ⟨p, s, n, rfl, h, by rw [e]; exact q⟩
theorem inv_yes {C p : Addr} {s : Stp} {n : Int} {z : Str} {H : Hp} {Q : VK} {E : XK} (e : invP s n = some z) (h : StF C H p s) (q : Q (.str z) H) : spInv C [.ref p, .int n] H Q E := ⟨p, s, n, rfl, h, by rw [e]; exact q⟩
section
local macro_rules | `(tactic| fail "zP") => `(tactic| first | ((with_reducible refine' inv_no ?e ?h ?q); (case h => assumption); (case e => assumption)) | ((with_reducible refine' inv_yes ?e ?h ?q); (case h => assumption); (case e => assumption)))
theorem ok_pini {f CP CS CC CB : Addr} {fd : FuncData} (F : Fun K "__init__" "Program.__init__" S_Program___init__ f fd) (B : Blt mg) (T : PrTxt K mg CP) (cI : Cal P w K mg base 1 "invalid_part" (spInv CS)) (eC : XCls P K mg "BadCount" CC ["count"]) (eB : XCls P K mg "BadStep" CB ["number", "part"]) :
    FnR P w K mg base (L2N.CX P w) 3 f (fun vs H Q E => ∃ ws rest, vs = ws ++ rest ∧ ws.length = ["self"].length ∧ rest.length ≤ sizeLine ∧ ∀ p, H p = Option.none → spPB CP CS CC CB (ws ++ [V.ref p]) (upd H p (.tup rest)) Q E) := by
  have S := nk_Program___init__
  obtain ⟨I, gP, ns, mc, rd, u1, v1⟩ := T
  have cl := I.cl
  refine FunS.ok (ps := ["self"]) (pv := "steps") F sc_Program___init__ (fun kV doc pm an cdv ct => StX.bind_star1 (B := fun us => bindArgs (PySem.W.fnOf "__init__" "Program.__init__" (defArgs S_Program___init__) (defBody S_Program___init__) (defScope S_Program___init__) .none kV doc pm an cdv ct) ⟨us, []⟩) (p1 := "self") (pv := "steps") (fun _ => rfl) (fun _ _ _ => rfl)) (fun cdv A outer s H vs Q E hr h => ?_)
  obtain ⟨p, t, dx, qs, ss, rfl, hp, ht, hs, hn, h1, h2, h3⟩ := h
  have hl : ((qs.map V.ref).length : Int) = ss.length := by rw [List.length_map, hs.1]
  show ZSs _ _ _ _ _ _ [some (.ref p), some (.ref t), none, none, none] H
  fail "z0"
  · rw [hl]
    exact h1 (by omega) _ (by assumption)
  · have few : ss.length ≤ 12 := by omega
    refine zs_forT pass_def rfl ?_
    fail "zz"
    refine ⟨_, _, rfl, SqT.of ht, fun i σ H' => (∃ a b, σ = [some (.ref p), some (.ref t), some (.int i), a, b]) ∧ H' = H ∧ ∀ (j : Nat) (t : Stp), j < i → ss[j]? = some t → invP t ((j : Int) + 1) = none, ⟨⟨_, _, rfl⟩, rfl, fun j t z => absurd z (Nat.not_lt_zero _)⟩, ?_, ?_, ?_⟩
    · rintro i σ H' _ ⟨_, rfl, _⟩
      exact SqT.of ht
    · rintro i y σ H' hy ⟨⟨a, b, rfl⟩, rfl, hb⟩
      obtain ⟨q, hq, rfl⟩ := map_get hy
      obtain ⟨s', hs'⟩ : ∃ s', ss[i]? = some s' := ⟨_, List.getElem?_eq_getElem (by rw [← hs.1]; exact (List.getElem?_eq_some_iff.mp hq).1)⟩
      have hf := hs.2 i q s' hq hs'
      rcases hz : invP s' ((i : Int) + 1) with _ | z
      · fail "za"
        refine ⟨⟨_, _, rfl⟩, rfl, fun j t' z w => ?_⟩
        rcases Nat.lt_or_ge j i with z' | z'
        · exact hb j t' z' w
        · obtain rfl : j = i := by omega
          rw [hs'] at w
          cases w
          exact hz
      · fail "za"
        exact h2 few i s' z hs' hb hz _ (by assumption)
    · rintro σ H' ⟨⟨a, b, rfl⟩, rfl, hb⟩
      fail "za"
      rename_i l nl
      refine h3 few (fun i s z => hb i s (by rw [List.length_map, hs.1]; exact (List.getElem?_eq_some_iff.mp z).1) z) l _ nl (fun a o na ha => by rw [upd_ne na]; exact Same.get (.new (.refl _) nl.e) ha) upd_same ?_
      fail "zh"
end
/-- Program(..) -/
def spPr (CP CS CC CB : Addr) : Sp := fun vs H Q E => ∃ (p dx : Addr) (qs : List Addr) (ss : List Stp), vs = .ref p :: qs.map V.ref ∧ H p = some (.ins CP dx []) ∧ Sts CS H qs ss ∧ qs.length ≤ 1000 ∧
  (12 < ss.length → ∀ d H', Same H H' → NoA H d → H' d = some (.xd [("count", .int ss.length)]) → E (.ref CC) (some d) H') ∧
  (ss.length ≤ 12 → ∀ (i : Nat) (s : Stp) (z : Str), ss[i]? = some s → (∀ (j : Nat) (t : Stp), j < i → ss[j]? = some t → invP t ((j : Int) + 1) = none) → invP s ((i : Int) + 1) = some z → ∀ d H', Same H H' → NoA H d → H' d = some (.xd [("part", .str z), ("number", .int ((i : Int) + 1))]) → E (.ref CB) (some d) H') ∧
  (ss.length ≤ 12 → (∀ (i : Nat) (s : Stp), ss[i]? = some s → invP s ((i : Int) + 1) = none) → ∀ l H', NoA H l → (∀ a o, a ≠ p → H a = some o → H' a = some o) → H' p = some (.ins CP dx [("steps", .ref l)]) → H' l = some (.lst (qs.map V.ref)) → Q .non H')
theorem prog_cal {f CP CS CC CB : Addr} (M : L2.Mk K CP f) (gm : mg "Program" = some (.ref CP)) (ok : FnR P w K mg base (L2N.CX P w) 3 f (fun vs H Q E => ∃ ws rest, vs = ws ++ rest ∧ ws.length = ["self"].length ∧ rest.length ≤ sizeLine ∧ ∀ p, H p = Option.none → spPB CP CS CC CB (ws ++ [V.ref p]) (upd H p (.tup rest)) Q E)) : CalCR P w K mg base 3 "Program" CP (spPr CP CS CC CB) := by
  refine ⟨f, _, M, ok, gm, fun vs H Q E h => ?_⟩
  obtain ⟨p, dx, qs, ss, rfl, hp, hs, hn, h1, h2, h3⟩ := h
  refine ⟨[.ref p], qs.map V.ref, rfl, rfl, by rw [List.length_map, sizeLine_eq]; omega, fun t ht => ?_⟩
  have s1 : Same H (upd H t (.tup (qs.map V.ref))) := .put (.refl _) ht
  refine ⟨p, t, dx, qs, ss, rfl, s1 _ _ hp, upd_same, hs.same s1, hn, fun z d nd => h1 z d _ (.new s1 nd.e) ⟨nd.free s1⟩ upd_same, fun z i s y a b c d nd => h2 z i s y a b c d _ (.new s1 nd.e) ⟨nd.free s1⟩ upd_same, fun z a l H' nl kk hp' hl' => h3 z a l H' ⟨nl.free s1⟩ (fun x o nx hx => kk x o nx (s1 _ _ hx)) hp' hl'⟩
theorem pr_do {CP CS CC CB p dx : Addr} {qs : List Addr} {ss : List Stp} {H : Hp} {Q : Addr → Hp → Prop} {R : VK} {E : XK} (n1 : NoA H p) (n2 : NoA H dx) (hs : Sts CS H qs ss) (hn : qs.length ≤ 1000) (o : POut CP CS CC CB ss H Q E) (k : ∀ H', Q p H' → R .non H') : spPr CP CS CC CB (.ref p :: qs.map V.ref) (upd (upd H dx (.own p)) p (.ins CP dx [])) R E := by
  have s1 : Same H (upd (upd H dx (.own p)) p (.ins CP dx [])) := .put (.put (.refl _) n2.e) n1.e
  refine ⟨p, dx, qs, ss, rfl, upd_same, hs.same s1, hn, fun z d H' s nd hd => o.many z d H' (s1.trans s) ⟨nd.free s1⟩ hd, fun z i s y a b c d H' s2 nd hd => o.bad z i s y a b c d H' (s1.trans s2) ⟨nd.free s1⟩ hd, fun z a l H' nl kk hp hl => k H' ?_⟩
  have s3 : Same H H' := fun x o hx => kk x o (ne_of_none hx n1.e) (s1 x o hx)
  exact o.made z a p H' s3 n1 ⟨dx, l, qs, hp, hl, hs.same s3⟩
/-! words: Program(*..), *e -/
local macro_rules | `(tactic| fail "zD") => `(tactic| first
  | ((with_reducible refine' s_makeS ?c ‹Room _ _› ?hk ?hX ?k ?hg ?hdb ?he); (case c => (with_reducible assumption)); (case hk => fail "zlev"); (case hX => exact ⟨rfl, rfl, rfl, rfl, rfl, rfl⟩); (case hg => rfl); (case hdb => decide); (case he => rfl))
  | ((with_reducible refine' s_makeS1 ?c ‹Room _ _› ?hk ?hX ?k ?hg ?hdb ?he); (case c => (with_reducible assumption)); (case hk => fail "zlev"); (case hX => exact ⟨rfl, rfl, rfl, rfl, rfl, rfl⟩); (case hg => rfl); (case hdb => decide); (case he => rfl))
  | ((with_reducible refine' s_makeR0 ?c ‹Room _ _› ?hk ?hX ?k ?hg ?hdb); (case c => (with_reducible assumption)); (case hk => fail "zlev"); (case hX => exact ⟨rfl, rfl, rfl, rfl, rfl, rfl⟩); (case hg => rfl); (case hdb => decide))
  | ((with_reducible refine' s_makeR ?c ‹Room _ _› ?hk ?hX ?k ?hg ?hdb ?he ?hpl); (case c => (with_reducible assumption)); (case hk => fail "zlev"); (case hX => exact ⟨rfl, rfl, rfl, rfl, rfl, rfl⟩); (case hg => rfl); (case hdb => decide); (case he => rfl); (case hpl => rfl)))
local macro_rules | `(tactic| fail "z") => `(tactic| first
  | ((with_reducible refine' za_star ?k ?hs); (case hs => rfl))
  | ((with_reducible show ∃ a xs, V.ref _ = V.ref a ∧ (SqT _ _ _ _ ∨ SqL _ _ _ _) ∧ ZA _ _ _ _ _); refine ⟨_, _, rfl, by first | exact Or.inr (SqL.of (by fail "zh")) | exact Or.inl (SqT.of (by fail "zh")) | exact Or.inl (by assumption), ?_⟩))
/-! Program.__add__, __iter__ -/
def spAdd (CP CS CC CB : Addr) : Sp := fun vs H Q E => ∃ (p q : Addr) (ss : List Stp) (s : Stp), vs = [.ref p, .ref q] ∧ PrF CP CS H p ss ∧ StF CS H q s ∧ ss.length ≤ 900 ∧ POut CP CS CC CB (ss ++ [s]) H (fun p' H' => Q (.ref p') H') E
theorem ok_padd {f CP CS CC CB : Addr} {fd : FuncData} (F : Fun K "__add__" "Program.__add__" S_Program___add__ f fd) (T : PrTxt K mg CP) (cP : CalCR P w K mg base 3 "Program" CP (spPr CP CS CC CB)) : FnOk P w K mg base (L2N.CX P w) 5 f fd ["self", "other"] (spAdd CP CS CC CB) := by
  have S := nk_Program___add__
  obtain ⟨I, gP, ns, mc, rd, u1, v1⟩ := T
  have cl := I.cl
  refine F.okN sc_Program___add__ (fun vs H Q E h => ?_) (fun cdv A outer s H vs Q E hr h => ?_)
  · obtain ⟨p, q, ss, s, rfl, _⟩ := h; rfl
  · obtain ⟨p, q, ss, st, rfl, ⟨dx, l, qs, hp, hl, hs⟩, hq, hn, o⟩ := h
    show ZSs _ _ _ _ _ _ [some (.ref p), some (.ref q)] H
    fail "z0"
    rename_i a d na nd nn
    have e : V.ref a :: (qs.map V.ref ++ [V.ref q]) = V.ref a :: (qs ++ [q]).map V.ref := by simp
    show spPr _ _ _ _ (V.ref a :: (qs.map V.ref ++ [V.ref q])) _ _ _
    rw [e]
    have hn' := hs.1
    refine pr_do na nd (hs.snoc hq) (by rw [List.length_append]; simp; omega) (⟨fun z d H' s n h => xw_def (o.many z d H' s n h), fun z i s y a b c d H' s2 n h => xw_def (o.bad z i s y a b c d H' s2 n h), o.made⟩ : POut CP CS CC CB (ss ++ [st]) H _ _) fun H' q => ⟨rfl, q⟩
def spIt (CP : Addr) : Nat → Sp := fun n vs H Q _ => ∃ (p dx l : Addr) (fs : List (Str × V)) (xs : List V), vs = [.ref p] ∧ H p = some (.ins CP dx fs) ∧ fs.lookup ("steps" : Str) = some (.ref l) ∧ SqL K H l xs ∧ ∀ it, NoA H it → n ≤ it → Q (.ref it) (upd H it (ItO l it 0))
theorem ok_iter {f CP : Addr} {fd : FuncData} (F : Fun K "__iter__" "Program.__iter__" S_Program___iter__ f fd) (T : PrTxt K mg CP) (gi : mg "iter" = none) : RunN P w K mg base 1 f fd ["self"] (spIt (K := K) CP) := by
  have S := nk_Program___iter__
  obtain ⟨I, gP, ns, mc, rd, u1, v1⟩ := T
  have cl := I.cl
  refine FunN.run F sc_Program___iter__ (fun n vs H Q E h => ?_) (fun cdv A outer s H vs Q E hr h => ?_)
  · obtain ⟨p, dx, l, fs, xs, rfl, _⟩ := h; rfl
  · obtain ⟨p, dx, l, fs, xs, rfl, hp, hl, hx, hQ⟩ := h
    show ZSs _ _ _ _ _ _ [some (.ref p)] H
    refine zss_one (zs_ret ?_)
    refine ze_callB (x := "iter") (id := "iter") gi (by first | rfl | decide +kernel) ?_ rfl (by decide) (by decide) rfl rfl
    fail "z"
    fail "z"
    fail "z"
    refine aw_fld hp cl ns hl ?_
    fail "zz"
    refine ItX.call_iterN.w ⟨l, xs, rfl, hx, fun it a b => hQ it ⟨a⟩ b⟩
theorem it_own {f CP : Addr} {fd : FuncData} (F : Fun K "__iter__" "Program.__iter__" S_Program___iter__ f fd) (T : PrTxt K mg CP) (gi : mg "iter" = none) (M : Meth K CP "__iter__" f) (b : Binds K fd ["self"] []) : ItOwn P w K mg base 1 CP "steps" :=
  ⟨f, fd, "self", _, M.at_, M.fn, ok_iter F T gi, b, fun n p dx l fs xs H Q E a b c d => ⟨p, dx, l, fs, xs, rfl, a, b, c, d⟩⟩

/-! steps as lists of tuples; drawn items (of laws/k25) -/
/-- a step as a tuple -/
def TpF (H : Hp) (t : Addr) (s : Stp) : Prop := H t = some (.tup [.str s.op, .int s.l, .int s.r, .str s.m])
def Tps (H : Hp) (ts : List Addr) (ss : List Stp) : Prop := ts.length = ss.length ∧ ∀ (i : Nat) (t : Addr) (s : Stp), ts[i]? = some t → ss[i]? = some s → TpF H t s
theorem Tps.same {H H' : Hp} {ts : List Addr} {ss : List Stp} (h : Tps H ts ss) (t : Same H H') : Tps H' ts ss := ⟨h.1, fun i q s a b => t _ _ (h.2 i q s a b)⟩
theorem Tps.snoc {q : Addr} {H : Hp} {qs : List Addr} {ss : List Stp} {s : Stp} (h : Tps H qs ss) (h2 : TpF H q s) : Tps H (qs ++ [q]) (ss ++ [s]) := by
  refine ⟨by simp [h.1], fun i q' s' a b => ?_⟩
  by_cases z : i < qs.length
  · rw [List.getElem?_append_left z] at a
    rw [List.getElem?_append_left (by rw [← h.1]; exact z)] at b
    exact h.2 i q' s' a b
  · rw [List.getElem?_append_right (by omega)] at a
    rw [List.getElem?_append_right (by rw [← h.1]; omega), ← h.1] at b
    cases k : i - qs.length with
    | zero => rw [k] at a b; simp at a b; subst a; subst b; exact h2
    | succ n => rw [k] at a; simp at a
theorem Tps.nil {H : Hp} : Tps H [] [] := ⟨rfl, fun i t s a => by simp at a⟩
theorem Sts.nil {C : Addr} {H : Hp} : Sts C H [] [] := ⟨rfl, fun i t s a => by simp at a⟩
theorem Tps.take {H : Hp} {ts : List Addr} {ss : List Stp} (h : Tps H ts ss) (k : Nat) : Tps H (ts.take k) (ss.take k) := by
  refine ⟨by rw [List.length_take, List.length_take, h.1], fun i t s a b => ?_⟩
  rw [List.getElem?_take] at a b
  split at a
  · rename_i z
    rw [if_pos z] at b
    exact h.2 i t s a b
  · cases a
theorem Tps.get {H : Hp} {ts : List Addr} {ss : List Stp} {i : Nat} {s : Stp} (h : Tps H ts ss) (hs : ss[i]? = some s) : ∃ t, ts[i]? = some t ∧ TpF H t s := by
  have l : i < ts.length := by rw [h.1]; exact (List.getElem?_eq_some_iff.mp hs).1
  exact ⟨ts[i], List.getElem?_eq_getElem l, h.2 i _ _ (List.getElem?_eq_getElem l) hs⟩
theorem Tps.get' {H : Hp} {ts : List Addr} {ss : List Stp} {i : Nat} {t : Addr} (h : Tps H ts ss) (ht : ts[i]? = some t) : ∃ s, ss[i]? = some s ∧ TpF H t s := by
  have l : i < ss.length := by rw [← h.1]; exact (List.getElem?_eq_some_iff.mp ht).1
  exact ⟨ss[i], List.getElem?_eq_getElem l, h.2 i _ _ ht (List.getElem?_eq_getElem l)⟩
/-- steps as a list of tuples -/
def TsL (H : Hp) (p : Addr) (ss : List Stp) : Prop := ∃ ts, H p = some (.lst (ts.map V.ref)) ∧ Tps H ts ss
theorem TsL.same {H H' : Hp} {p : Addr} {ss : List Stp} (h : TsL H p ss) (t : Same H H') : TsL H' p ss := by
  obtain ⟨ts, a, b⟩ := h
  exact ⟨ts, t _ _ a, b.same t⟩
theorem TpF.eq {K : PySem.W.Frag} {H : Hp} {p q : Addr} {s : Stp} (a : TpF H p s) (b : TpF H q s) : DEq K H 1 (.ref p) (.ref q) := .tupS (SqT.of a) (SqT.of b) (Nat.le_of_ble_eq_true rfl) (Sc.cons (.str _) (Sc.cons (.int _) (Sc.cons (.int _) (Sc.cons (.str _) Sc.nil))))
theorem TsL.eq {K : PySem.W.Frag} {H : Hp} {p q : Addr} {ss : List Stp} (a : TsL H p ss) (b : TsL H q ss) (hn : ss.length ≤ 1000) : DEq K H 2 (.ref p) (.ref q) := by
  obtain ⟨ts, a1, a2⟩ := a
  obtain ⟨us, b1, b2⟩ := b
  refine .lst (SqL.of a1) (SqL.of b1) (by rw [List.length_map, sizeLine_eq, a2.1]; omega) (by rw [List.length_map, List.length_map, a2.1, b2.1]) fun i x y hx hy => ?_
  obtain ⟨t, ht, rfl⟩ := map_get hx
  obtain ⟨u, hu, rfl⟩ := map_get hy
  obtain ⟨s, hs, c⟩ := a2.get' ht
  exact c.eq (b2.2 i u s hu hs)
theorem Tps.set {H : Hp} {l : Addr} {xs ys : List V} {ts : List Addr} {ss : List Stp} (h : Tps H ts ss) (hl : H l = some (.lst xs)) : Tps (upd H l (.lst ys)) ts ss := ⟨h.1, fun i t s a b => by
  have z := h.2 i t s a b
  have n : t ≠ l := fun e => by
    unfold TpF at z
    rw [e, hl] at z
    cases z
  unfold TpF
  rw [upd_ne n]
  exact z⟩
theorem ix_str {X : Cx} {σ : L2.St} {H : Hp} {Q : VK} {a : Addr} {xs : List V} {v : Int} (h : H a = some (.lst xs)) (h0 : 0 ≤ v) (h9 : v < xs.length) (hs : ∀ x ∈ xs, ∃ z, x = .str z) (k : ∀ z, Q (.str z) H) : IxW X σ (.ref a) (.int v) H Q := by
  obtain ⟨x, hx, hx2⟩ := atI_lt h0 h9
  obtain ⟨z, rfl⟩ := hs x (List.mem_of_getElem? hx)
  exact xw_lst (SqL.of h) hx2 (k z)
theorem ix_int {X : Cx} {σ : L2.St} {H : Hp} {Q : VK} {a : Addr} {xs : List V} {v : Int} (h : H a = some (.lst xs)) (h0 : 0 ≤ v) (h9 : v < xs.length) (hs : ∀ x ∈ xs, ∃ z, x = .int z) (k : ∀ z, Q (.int z) H) : IxW X σ (.ref a) (.int v) H Q := by
  obtain ⟨x, hx, hx2⟩ := atI_lt h0 h9
  obtain ⟨z, rfl⟩ := hs x (List.mem_of_getElem? hx)
  exact xw_lst (SqL.of h) hx2 (k z)
local macro_rules | `(tactic| fail "z") => `(tactic| first
  | ((with_reducible refine' ix_str ?ea ?l0 ?l9 ?vs (fun _ => ?k)); (case ea => fail "zh"); (case l0 => assumption); (case l9 => (simp only [List.length_cons, List.length_nil]; omega)); (case vs => (simp; done)))
  | ((with_reducible refine' ix_int ?ea ?l0 ?l9 ?vs (fun _ => ?k)); (case ea => fail "zh"); (case l0 => assumption); (case l9 => (simp only [List.length_cons, List.length_nil]; omega)); (case vs => (simp; done))))
theorem TpF.mk {H : Hp} {t : Addr} {a d : Str} {b c : Int} (h : H t = some (.tup [.str a, .int b, .int c, .str d])) : TpF H t ⟨a, b, c, d⟩ := h
theorem _root_.L2.NoA.up {H H' : Hp} {a : Addr} (n : NoA H' a) (s : Same H H') : NoA H a := ⟨n.free s⟩
theorem Sts.set {C : Addr} {H : Hp} {l : Addr} {xs ys : List V} {ts : List Addr} {ss : List Stp} (h : Sts C H ts ss) (hl : H l = some (.lst xs)) : Sts C (upd H l (.lst ys)) ts ss := ⟨h.1, fun i t s a b => by
  obtain ⟨dx, z⟩ := h.2 i t s a b
  have n : t ≠ l := fun e => by
    rw [e, hl] at z
    cases z
  exact ⟨dx, by rw [upd_ne n]; exact z⟩⟩
theorem ixN_k {n j : Nat} (h : j < n) : ixN n (j : Int) = some j := by
  unfold ixN
  rw [if_pos (by omega), if_pos (by omega)]
  simp
theorem Tps.put1 {H : Hp} {ts : List Addr} {ss : List Stp} {n : Nat} {t : Addr} {s : Stp} (h : Tps H ts ss) (h2 : TpF H t s) : Tps H (ts.set n t) (ss.set n s) := by
  refine ⟨by simp [h.1], fun i t' s' a b => ?_⟩
  rw [List.getElem?_set] at a b
  split at a
  · rename_i z
    rw [if_pos z] at b
    split at a
    · split at b
      · cases a; cases b; exact h2
      · cases b
    · cases a
  · rename_i z
    rw [if_neg z] at b
    exact h.2 i t' s' a b
theorem ix_nat {x : Int} {n : Nat} (h0 : 0 ≤ x) (h9 : x < n) : ∃ k : Nat, x = k ∧ k < n := ⟨x.toNat, by omega, by omega⟩

/-! the standard programs (needs modes, chk or its check, cut, prog, tps) -/
structure RwS where
  op : Str
  l : Int
  r : Int
def RwF (K : PySem.W.Frag) (H : Hp) (t : Addr) (r : RwS) : Prop := SqT K H t [.str r.op, .int r.l, .int r.r]
def Rws (K : PySem.W.Frag) (H : Hp) (ts : List Addr) (rs : List RwS) : Prop := ts.length = rs.length ∧ ∀ (i : Nat) (t : Addr) (r : RwS), ts[i]? = some t → rs[i]? = some r → RwF K H t r
theorem SqT.same {K : PySem.W.Frag} {H H' : Hp} {a : Addr} {xs : List V} (h : SqT K H a xs) (e : Same H H') : SqT K H' a xs :=
  h.elim (fun h => .inl (h.elim (fun h => .inl (e _ _ h)) fun ⟨o, h⟩ => .inr ⟨o, e _ _ h⟩)) fun h => .inr h
theorem Rws.same {H H' : Hp} {ts : List Addr} {rs : List RwS} (h : Rws K H ts rs) (t : Same H H') : Rws K H' ts rs := ⟨h.1, fun i q s a b => SqT.same (h.2 i q s a b) t⟩
theorem Rws.nil {H : Hp} : Rws K H [] [] := ⟨rfl, fun i t s a => by simp at a⟩
theorem Rws.cons {H : Hp} {t : Addr} {ts : List Addr} {r : RwS} {rs : List RwS} (h : RwF K H t r) (k : Rws K H ts rs) : Rws K H (t :: ts) (r :: rs) := ⟨by rw [List.length_cons, List.length_cons, k.1], fun i q s a b => by
  cases i with
  | zero => simp at a b; subst a; subst b; exact h
  | succ i => exact k.2 i q s (by simpa using a) (by simpa using b)⟩
theorem Rws.get {H : Hp} {ts : List Addr} {rs : List RwS} {i : Nat} {r : RwS} (h : Rws K H ts rs) (hs : rs[i]? = some r) : ∃ t, ts[i]? = some t ∧ RwF K H t r := by
  have l : i < ts.length := by rw [h.1]; exact (List.getElem?_eq_some_iff.mp hs).1
  exact ⟨ts[i], List.getElem?_eq_getElem l, h.2 i _ _ (List.getElem?_eq_getElem l) hs⟩
theorem Rws.get' {H : Hp} {ts : List Addr} {rs : List RwS} {i : Nat} {t : Addr} (h : Rws K H ts rs) (ht : ts[i]? = some t) : ∃ r, rs[i]? = some r ∧ RwF K H t r := by
  have l : i < rs.length := by rw [← h.1]; exact (List.getElem?_eq_some_iff.mp ht).1
  exact ⟨rs[i], List.getElem?_eq_getElem l, h.2 i _ _ ht (List.getElem?_eq_getElem l)⟩
def rows3 (op f : Str) : List RwS := if op = "+" then (if f = "a" then [⟨"+", 0, 1⟩, ⟨"-", 2, 0⟩, ⟨"-", 1, 3⟩] else [⟨"+", 0, 1⟩, ⟨"-", 2, 1⟩, ⟨"-", 0, 3⟩]) else if f = "a" then [⟨"-", 0, 1⟩, ⟨"-", 0, 2⟩, ⟨"-", 3, 1⟩] else [⟨"-", 0, 1⟩, ⟨"+", 2, 1⟩, ⟨"-", 0, 3⟩]
def rows6 (op f : Str) : List RwS := if op = "+" then (if f = "a" then [⟨"+", 0, 1⟩, ⟨"-", 2, 1⟩, ⟨"-", 2, 3⟩, ⟨"-", 0, 3⟩, ⟨"-", 1, 4⟩, ⟨"+", 5, 6⟩] else [⟨"+", 0, 1⟩, ⟨"-", 2, 0⟩, ⟨"-", 2, 3⟩, ⟨"-", 1, 3⟩, ⟨"-", 0, 4⟩, ⟨"+", 5, 6⟩]) else if f = "a" then [⟨"-", 0, 1⟩, ⟨"+", 2, 1⟩, ⟨"-", 3, 2⟩, ⟨"-", 0, 3⟩, ⟨"-", 4, 1⟩, ⟨"+", 5, 6⟩] else [⟨"-", 0, 1⟩, ⟨"-", 0, 2⟩, ⟨"+", 2, 3⟩, ⟨"-", 3, 1⟩, ⟨"-", 0, 4⟩, ⟨"+", 5, 6⟩]
def rowsN (n : Nat) (op f : Str) : List RwS := if n = 3 then rows3 op f else rows6 op f
def okRow (k : Nat) (r : RwS) : Bool := (r.op == "+" || r.op == "-") && decide (0 ≤ r.l ∧ r.l ≤ (k : Int) + 1 ∧ 0 ≤ r.r ∧ r.r ≤ (k : Int) + 1)
def okRows : Nat → List RwS → Bool
  | _, [] => true
  | k, r :: rs => okRow k r && okRows (k + 1) rs
theorem okRows.get : ∀ {rs : List RwS} {k : Nat}, okRows k rs = true → ∀ {i : Nat} {r : RwS}, rs[i]? = some r → okRow (k + i) r = true
  | [], _, _, i, r, e => by simp at e
  | a :: rs, k, h, 0, r, e => by
    simp at e; subst e
    simp only [okRows, Bool.and_eq_true] at h
    exact h.1
  | a :: rs, k, h, i + 1, r, e => by
    simp only [okRows, Bool.and_eq_true] at h
    have := okRows.get h.2 (i := i) (r := r) (by simpa using e)
    rwa [show k + 1 + i = k + (i + 1) by omega] at this
theorem rowsN_ok (n : Nat) (op f : Str) : okRows 0 (rowsN n op f) = true := by
  unfold rowsN rows3 rows6
  split <;> split <;> split <;> decide +kernel
theorem rowsN_len {n : Nat} (h : n = 3 ∨ n = 6) (op f : Str) : (rowsN n op f).length = n := by
  unfold rowsN rows3 rows6
  rcases h with rfl | rfl
  · rw [if_pos rfl]; split <;> split <;> rfl
  · rw [if_neg (by decide)]; split <;> split <;> rfl
theorem okRow.inv {k : Nat} {r : RwS} {m : Str} (h : okRow k r = true) (hm : m ∈ modes) : invP ⟨r.op, r.l, r.r, m⟩ ((k : Int) + 1) = none := by
  unfold okRow at h
  simp only [Bool.and_eq_true, Bool.or_eq_true, beq_iff_eq, decide_eq_true_eq] at h
  obtain ⟨h1, h2, h3, h4, h5⟩ := h
  unfold invP
  rw [if_neg (by rintro ⟨a, b⟩; exact h1.elim a b), if_neg (by simp; omega), if_neg (by simp; omega), if_neg (by simpa using hm)]
def stepsOf (rs : List RwS) (ms : List Str) : List Stp := List.zipWith (fun r m => ⟨r.op, r.l, r.r, m⟩) rs ms
theorem stepsOf.get {rs : List RwS} {ms : List Str} {i : Nat} {s : Stp} (h : (stepsOf rs ms)[i]? = some s) : ∃ r m, rs[i]? = some r ∧ ms[i]? = some m ∧ s = ⟨r.op, r.l, r.r, m⟩ := by
  unfold stepsOf at h
  rw [List.getElem?_zipWith] at h
  cases e1 : rs[i]? with
  | none => rw [e1] at h; cases h
  | some r =>
    cases e2 : ms[i]? with
    | none => rw [e1, e2] at h; cases h
    | some m => rw [e1, e2] at h; exact ⟨r, m, rfl, rfl, by cases h; rfl⟩
theorem stepsOf.at {rs : List RwS} {ms : List Str} {i : Nat} {r : RwS} {m : Str} (h : rs[i]? = some r) (k : ms[i]? = some m) : (stepsOf rs ms)[i]? = some ⟨r.op, r.l, r.r, m⟩ := by
  unfold stepsOf
  rw [List.getElem?_zipWith, h, k]
theorem stepsOf.len {rs : List RwS} {ms : List Str} (h : rs.length = ms.length) : (stepsOf rs ms).length = rs.length := by
  unfold stepsOf
  rw [List.length_zipWith]; omega
theorem stepsOf.ok {rs : List RwS} {ms : List Str} (h : okRows 0 rs = true) (hm : ∀ m ∈ ms, m ∈ modes) (i : Nat) (s : Stp) (hs : (stepsOf rs ms)[i]? = some s) : invP s ((i : Int) + 1) = none := by
  obtain ⟨r, m, a, b, rfl⟩ := stepsOf.get hs
  have := okRows.get h a
  rw [Nat.zero_add] at this
  exact okRow.inv this (hm m (List.mem_of_getElem? b))
/-! spread -/
def spreadL (ms : List Str) (n : Nat) : List Str := match ms with
  | [] => List.replicate n "nearest-even"
  | [m] => List.replicate n m
  | m :: m' :: l => m :: m' :: l
def okN (ms : List Str) (n : Nat) : Prop := ms.length = 0 ∨ ms.length = 1 ∨ ms.length = n
theorem spreadL_len {ms : List Str} {n : Nat} (h : okN ms n) : (spreadL ms n).length = n := by
  unfold okN at h
  match ms, h with
  | [], _ => simp [spreadL]
  | [m], _ => simp [spreadL]
  | m :: m' :: l, h => simpa [spreadL] using h
theorem spreadL_ok {ms : List Str} {n : Nat} (h : ∀ m ∈ ms, m ∈ modes) : ∀ m ∈ spreadL ms n, m ∈ modes := by
  match ms, h with
  | [], _ =>
    intro m hm
    obtain ⟨_, rfl⟩ := List.mem_replicate.mp (show m ∈ List.replicate n ("nearest-even" : Str) from hm)
    decide
  | [a], h =>
    intro m hm
    obtain ⟨_, rfl⟩ := List.mem_replicate.mp (show m ∈ List.replicate n a from hm)
    exact h m (by simp)
  | a :: b :: l, h => exact h
theorem inV_int {k : Int} : ∀ {l : List Int}, inV (.int k) (l.map V.int) = decide (k ∈ l)
  | [] => by simp [inV]
  | a :: l => by
    have ih := inV_int (k := k) (l := l)
    unfold inV at ih ⊢
    rw [List.map_cons, List.any_cons, ih]
    by_cases h : k = a
    · subst h; simp [eqV]
    · have h2 : ¬ a = k := fun e => h e.symm
      have : eqV (.int a) (.int k) = false := by simp [eqV, h2]
      simp [h, this]
/-- modes as an outcome: an unknown one that is the first, or none -/
theorem first_bad : ∀ (ms : List Str), (∀ m ∈ ms, m ∈ modes) ∨ ∃ (i : Nat) (z : Str), ms[i]? = some z ∧ z ∉ modes ∧ ∀ (j : Nat) (t : Str), j < i → ms[j]? = some t → t ∈ modes
  | [] => .inl fun m h => by cases h
  | a :: l => by
    by_cases h : a ∈ modes
    · rcases first_bad l with k | ⟨i, z, e, n, b⟩
      · exact .inl fun m hm => by rcases List.mem_cons.mp hm with rfl | q; exact h; exact k m q
      · refine .inr ⟨i + 1, z, by simpa using e, n, fun j t hj ht => ?_⟩
        cases j with
        | zero => simp at ht; subst ht; exact h
        | succ j => exact b j t (by omega) (by simpa using ht)
    · exact .inr ⟨0, a, rfl, h, fun j t hj => absurd hj (Nat.not_lt_zero _)⟩
structure SpO (CC CM : Addr) (ms : List Str) (n : Nat) (H : Hp) (Q : Addr → Hp → Prop) (E : XK) : Prop where
  many : ¬ okN ms n → ∀ d H', Same H H' → NoA H d → H' d = some (.xd [("count", .int ms.length)]) → E (.ref CC) (some d) H'
  mode : okN ms n → ∀ (i : Nat) (z : Str), ms[i]? = some z → z ∉ modes → (∀ (j : Nat) (t : Str), j < i → ms[j]? = some t → t ∈ modes) → ∀ d H', Same H H' → NoA H d → H' d = some (.xd [("mode", .str z)]) → E (.ref CM) (some d) H'
  made : okN ms n → (∀ m ∈ ms, m ∈ modes) → ∀ q H', Same H H' → NoA H q → H' q = some (.lst ((spreadL ms n).map V.str)) → Q q H'
def spSpread (CC CM : Addr) : Sp := fun vs H Q E => ∃ (p : Addr) (ms : List Str) (n : Nat), vs = [.ref p, .int n] ∧ H p = some (.tup (ms.map V.str)) ∧ (n = 3 ∨ n = 6) ∧ ms.length ≤ 100 ∧ SpO CC CM ms n H (fun q H' => Q (.ref q) H') E
section
local macro_rules | `(tactic| fail "zP") => `(tactic| (with_reducible first | refine chk_do (fun _ => ?_) (fun _ _ _ => ?_)))
theorem ok_spread {f CC CM : Addr} {fd : FuncData} (F : Fun K "spread" "spread" S_spread f fd) (B : Blt mg) (cC : Cal P w K mg base 2 "check_mode" (spChk CM)) (eC : XCls P K mg "BadCount" CC ["count"]) : FnOk P w K mg base (L2N.CX P w) 3 f fd ["modes", "many"] (spSpread CC CM) := by
  have S := nk_spread
  refine F.okN sc_spread (fun vs H Q E h => ?_) (fun cdv A outer s H vs Q E hr h => ?_)
  · obtain ⟨p, ms, n, rfl, _⟩ := h; rfl
  · obtain ⟨p, ms, n, rfl, hp, hn, hl, o⟩ := h
    have hlen : ((ms.map V.str).length : Int) = ms.length := by rw [List.length_map]
    have inn : ∀ z : Bool, inV (.int (ms.map V.str).length) [.int 0, .int 1, .int n] = z → (z = true ↔ okN ms n) := by
      intro z hz
      have := inV_int (k := (ms.map V.str).length) (l := [0, 1, (n : Int)])
      rw [show [(0 : Int), 1, (n : Int)].map V.int = [V.int 0, V.int 1, V.int n] from rfl, hz] at this
      rw [this, hlen]
      unfold okN
      simp only [List.mem_cons, List.not_mem_nil, or_false, decide_eq_true_eq]
      omega
    show ZSs _ _ _ _ _ _ [some (.ref p), some (.int n), none] H
    refine zss_cut (fun σ1 H1 => σ1 = [some (.ref p), some (.int n), none] ∧ Same H H1 ∧ okN ms n) (fun nx hnx => ?_) ?_
    · fail "za"
      · rename_i t nt hin d nd
        have no : ¬ okN ms n := fun h => by have := (inn _ hin).mpr h; cases this
        rw [hlen]
        exact o.many no d _ (.new (.new (.refl _) nt.e) nd.e) (nd.up (.new (.refl _) nt.e)) upd_same
      · rename_i t nt hin
        exact hnx _ _ ⟨rfl, .new (.refl _) nt.e, (inn _ hin).mp rfl⟩
    rintro _ H1 ⟨rfl, s1, ok⟩
    have hp1 := s1 _ _ hp
    refine zss_cut (fun σ1 H2 => (∃ a, σ1 = [some (.ref p), some (.int n), a]) ∧ H2 = H1 ∧ ∀ m ∈ ms, m ∈ modes) (fun nx hnx => ?_) ?_
    · refine zs_forT pass_def rfl ?_
      fail "zz"
      refine ⟨_, _, rfl, SqT.of hp1, fun i σ H' => (∃ a, σ = [some (.ref p), some (.int n), a]) ∧ H' = H1 ∧ ∀ (j : Nat) (t : Str), j < i → ms[j]? = some t → t ∈ modes, ⟨⟨_, rfl⟩, rfl, fun j t z => absurd z (Nat.not_lt_zero _)⟩, ?_, ?_, ?_⟩
      · rintro i σ H' _ ⟨_, rfl, _⟩
        exact SqT.of hp1
      · rintro i y σ H' hy ⟨⟨a, rfl⟩, rfl, hb⟩
        obtain ⟨m, hm, rfl⟩ := map_get hy
        fail "za"
        · rename_i hmm
          refine ⟨⟨_, rfl⟩, rfl, fun j t hj ht => ?_⟩
          rcases Nat.lt_or_ge j i with z | z
          · exact hb j t z ht
          · obtain rfl : j = i := by omega
            rw [hm] at ht
            cases ht
            exact hmm
        · rename_i hmm d nd
          exact o.mode ok i m hm hmm hb d _ (.new s1 nd.e) (nd.up s1) upd_same
      · rintro σ H' ⟨⟨a, rfl⟩, rfl, hb⟩
        refine hnx _ _ ⟨⟨a, rfl⟩, rfl, fun m hm => ?_⟩
        obtain ⟨i, hi, e⟩ := List.getElem_of_mem hm
        exact hb i m (by rw [List.length_map]; exact hi) (List.getElem?_eq_some_iff.mpr ⟨hi, e⟩)
    rintro _ _ ⟨⟨a, rfl⟩, rfl, all⟩
    have o3 := o.made ok all
    match ms, o3 with
    | [], o3 =>
      fail "z0"
      any_goals (exfalso; simp only [List.map_cons, List.map_nil, List.length_cons, List.length_nil] at *; omega)
      rename_i l nl
      refine ow_rep (by fail "zh") (by omega) (by omega) (Nat.le_of_ble_eq_true rfl) fun q nq => ?_
      refine o3 q _ (.new (.new s1 nl.e) nq.e) (nq.up (.new s1 nl.e)) ?_
      rw [upd_same]
      rcases hn with rfl | rfl <;> rfl
    | [m], o3 =>
      fail "z0"
      any_goals (exfalso; simp only [List.map_cons, List.map_nil, List.length_cons, List.length_nil] at *; omega)
      rename_i l nl
      refine ow_rep (by fail "zh") (by omega) (by omega) (Nat.le_of_ble_eq_true rfl) fun q nq => ?_
      refine o3 q _ (.new (.new s1 nl.e) nq.e) (nq.up (.new s1 nl.e)) ?_
      rw [upd_same]
      rcases hn with rfl | rfl <;> rfl
    | m :: m' :: l, o3 =>
      fail "z0"
      any_goals (exfalso; simp only [List.map_cons, List.map_nil, List.length_cons, List.length_nil] at *; omega)
      rename_i q nq
      exact o3 q _ (.new s1 nq.e) (nq.up s1) upd_same
end
/-! check_choices, built -/
def spChoice (CH : Addr) : Sp := fun vs H Q E => ∃ (f op : Str), vs = [.str f, .str op] ∧ (f ≠ "a" → f ≠ "b" → ∀ d, NoA H d → E (.ref CH) (some d) (upd H d (.xd [("what", .str "first")]))) ∧
  ((f = "a" ∨ f = "b") → op ≠ "+" → op ≠ "-" → ∀ d, NoA H d → E (.ref CH) (some d) (upd H d (.xd [("what", .str "operation")]))) ∧ ((f = "a" ∨ f = "b") → (op = "+" ∨ op = "-") → Q .non H)
theorem ok_choice {f CH : Addr} {fd : FuncData} (F : Fun K "check_choices" "check_choices" S_check_choices f fd) (eH : XCls P K mg "BadChoice" CH ["what"]) : FnOk P w K mg base (L2N.CX P w) 2 f fd ["first", "operation"] (spChoice CH) := by
  have S := nk_check_choices
  refine F.okN sc_check_choices (fun vs H Q E h => ?_) (fun cdv A outer s H vs Q E hr h => ?_)
  · obtain ⟨f, op, rfl, _⟩ := h; rfl
  · obtain ⟨fst, op, rfl, h1, h2, h3⟩ := h
    show ZSs _ _ _ _ _ _ [some (.str fst), some (.str op)] H
    fail "z0"
    all_goals first
      | exact h3 (by first | exact .inl (by assumption) | exact .inr (by assumption)) (by first | exact .inl (by assumption) | exact .inr (by assumption))
      | exact h2 (by first | exact .inl (by assumption) | exact .inr (by assumption)) (by assumption) (by assumption) _ (by assumption)
      | exact h1 (by assumption) (by assumption) _ (by assumption)
def spBuilt (CP CS : Addr) : Sp := fun vs H Q _ => ∃ (a b : Addr) (ts : List Addr) (rs : List RwS) (ms : List Str), vs = [.ref a, .ref b] ∧ (∀ H, SqT K H a (ts.map V.ref)) ∧ (∀ H, Rws K H ts rs) ∧ H b = some (.lst (ms.map V.str)) ∧ rs.length = ms.length ∧ rs.length ≤ 12 ∧ okRows 0 rs = true ∧ (∀ m ∈ ms, m ∈ modes) ∧
  ∀ p H', Same H H' → NoA H p → PrF CP CS H' p (stepsOf rs ms) → Q (.ref p) H'
section
local macro_rules | `(tactic| fail "zP") => `(tactic| ((with_reducible refine' st_do ?na ?nd (fun _ _ _ => ?k)); (case na => assumption); (case nd => assumption)))
local macro_rules | `(tactic| fail "z") => `(tactic| ((with_reducible show ZG _ (Expr.Tuple _ _ _) _ _ _ _); refine zg_tup rfl ?_; refine ⟨_, _, rfl, by assumption, rfl, ?_⟩))
theorem ok_built {f CP CS CC CB : Addr} {fd : FuncData} (F : Fun K "built" "built" S_built f fd) (B : Blt mg) (cS : CalC P w K mg base 1 "Step" CS (spSt CS)) (cP : CalCR P w K mg base 3 "Program" CP (spPr CP CS CC CB)) : FnOk P w K mg base (L2N.CX P w) 5 f fd ["rows", "modes"] (spBuilt (K := K) CP CS) := by
  have S := nk_built
  refine F.okN sc_built (fun vs H Q E h => ?_) (fun cdv A outer s H vs Q E hr h => ?_)
  · obtain ⟨a, b, ts, rs, ms, rfl, _⟩ := h; rfl
  · obtain ⟨a, b, ts, rs, ms, rfl, ha, hts, hb, hlen, h12, okr, okm, hQ⟩ := h
    have hsl : (stepsOf rs ms).length = rs.length := stepsOf.len hlen
    have htl := (hts H).1
    show ZSs _ _ _ _ _ _ [some (.ref a), some (.ref b), none, none, none, none, none] H
    fail "z0"
    rename_i l nl
    refine zs_forZ pass_def rfl B.zip ?_
    fail "zz"
    have s0 : Same H (upd H l (.lst [])) := .new (.refl _) nl.e
    refine ⟨a, b, _, _, rfl, ha _, SqL.of (s0 _ _ hb), by rw [List.length_map, List.length_map]; omega, fun i σ H' => ∃ q x1 x2 x3 x4, σ = [some (.ref a), some (.ref b), some (.ref l), x1, x2, x3, x4] ∧ Same H H' ∧ H' l = some (.lst (q.map V.ref)) ∧ i ≤ rs.length ∧ Sts CS H' q ((stepsOf rs ms).take i),
      ⟨[], _, _, _, _, rfl, s0, upd_same, Nat.zero_le _, Sts.nil⟩, ?_, ?_, ?_⟩
    · rintro i σ H' _ ⟨q, x1, x2, x3, x4, rfl, s1, _⟩
      exact ⟨ha _, SqL.of (s1 _ _ hb)⟩
    · rintro i x y T σ H' hx hy ⟨q, x1, x2, x3, x4, rfl, s1, hl, hi, hs⟩ nT
      obtain ⟨t, ht, rfl⟩ := map_get hx
      obtain ⟨m, hm, rfl⟩ := map_get hy
      obtain ⟨r, hr', hrt⟩ := (hts (upd H' T (.tup [.ref t, .str m]))).get' ht
      unfold RwF at hrt
      have sT : Same H' (upd H' T (.tup [.ref t, .str m])) := .new (.refl _) nT
      have hl1 := sT _ _ hl
      have hs1 := hs.same sT
      have hT : upd H' T (.tup [.ref t, .str m]) T = some (.tup [.ref t, .str m]) := upd_same
      have s2 := s1.trans sT
      generalize upd H' T (.tup [.ref t, .str m]) = H2 at *
      fail "za"
      · rw [List.length_map, sizeLine_eq, hs1.1, List.length_take]
        omega
      · rename_i st dx nst ndx nd3 H3 s3 hst
        have hi' : i < rs.length := (List.getElem?_eq_some_iff.mp hr').1
        have hl3 := s3 _ _ hl1
        refine ⟨q ++ [st], _, _, _, _, rfl, .put (s2.trans s3) nl.e, by rw [upd_same, List.map_append]; rfl, hi', ?_⟩
        rw [List.take_add_one, stepsOf.at hr' hm]
        exact ((hs1.same s3).snoc hst).set hl3
    · rintro σ H' ⟨q, x1, x2, x3, x4, rfl, s1, hl, hi, hs⟩
      rw [List.length_map, htl, ← hsl, List.take_length] at hs
      fail "za"
      refine ⟨l, _, rfl, .inr (SqL.of hl), fun p dx np ndx nd => ?_⟩
      refine pr_do np ndx hs (by have := hs.1; omega) (Q := fun g H' => Q (.ref g) H') ⟨fun z => absurd z (by omega), fun _ i s z e1 _ e3 => (by rw [stepsOf.ok okr okm i s e1] at e3; cases e3), fun _ _ g H2 s2 ng hg => hQ g H2 (s1.trans s2) (ng.up s1) hg⟩ fun H2 q => ⟨rfl, q⟩
end

/-! three, six -/
structure SOut (CP CS CC CM CH : Addr) (n : Nat) (ms : List Str) (fst op : Str) (H : Hp) (Q : Addr → Hp → Prop) (E : XK) : Prop where
  many : ¬ okN ms n → ∀ d H', Same H H' → NoA H d → H' d = some (.xd [("count", .int ms.length)]) → E (.ref CC) (some d) H'
  mode : okN ms n → ∀ (i : Nat) (z : Str), ms[i]? = some z → z ∉ modes → (∀ (j : Nat) (t : Str), j < i → ms[j]? = some t → t ∈ modes) → ∀ d H', Same H H' → NoA H d → H' d = some (.xd [("mode", .str z)]) → E (.ref CM) (some d) H'
  fbad : okN ms n → (∀ m ∈ ms, m ∈ modes) → fst ≠ "a" → fst ≠ "b" → ∀ d H', Same H H' → NoA H d → H' d = some (.xd [("what", .str "first")]) → E (.ref CH) (some d) H'
  obad : okN ms n → (∀ m ∈ ms, m ∈ modes) → (fst = "a" ∨ fst = "b") → op ≠ "+" → op ≠ "-" → ∀ d H', Same H H' → NoA H d → H' d = some (.xd [("what", .str "operation")]) → E (.ref CH) (some d) H'
  made : okN ms n → (∀ m ∈ ms, m ∈ modes) → (fst = "a" ∨ fst = "b") → (op = "+" ∨ op = "-") → ∀ p H', Same H H' → NoA H p → PrF CP CS H' p (stepsOf (rowsN n op fst) (spreadL ms n)) → Q p H'
theorem SOut.up {CP CS CC CM CH : Addr} {n : Nat} {ms : List Str} {fst op : Str} {H H2 : Hp} {Q : Addr → Hp → Prop} {E : XK} (o : SOut CP CS CC CM CH n ms fst op H Q E) (s : Same H H2) : SOut CP CS CC CM CH n ms fst op H2 Q E :=
  ⟨fun a d H' s2 nd => o.many a d H' (s.trans s2) (nd.up s), fun a i z b c e d H' s2 nd => o.mode a i z b c e d H' (s.trans s2) (nd.up s), fun a b c e d H' s2 nd => o.fbad a b c e d H' (s.trans s2) (nd.up s), fun a b c e g d H' s2 nd => o.obad a b c e g d H' (s.trans s2) (nd.up s), fun a b c e p H' s2 np => o.made a b c e p H' (s.trans s2) (np.up s)⟩
/-- what the top has written of a table of rows -/
structure DcT (K : PySem.W.Frag) (mg : Str → Option Value) (w : World) (x : Str) (n : Nat) : Prop where
  ex : ∃ a, mg x = some (.ref a) ∧ ∀ op f : Str, (op = "+" ∨ op = "-") → (f = "a" ∨ f = "b") → ∃ (t : Addr) (ts : List Addr), KDct K w a (op ++ f) (.ref t) ∧ (∀ H, SqT K H t (ts.map V.ref)) ∧ ∀ H, Rws K H ts (rowsN n op f)
def spThB (CP CS CC CM CH : Addr) (n : Nat) : Sp := fun vs H Q E => ∃ (p : Addr) (ms : List Str) (f op : Str), vs = [.str f, .str op, .ref p] ∧ H p = some (.tup (ms.map V.str)) ∧ ms.length ≤ 100 ∧ SOut CP CS CC CM CH n ms f op H (fun g H' => Q (.ref g) H') E
theorem choice_do {CH : Addr} {f op : Str} {H : Hp} {Q : VK} {E : XK} (h1 : f ≠ "a" → f ≠ "b" → ∀ d, NoA H d → E (.ref CH) (some d) (upd H d (.xd [("what", .str "first")]))) (h2 : (f = "a" ∨ f = "b") → op ≠ "+" → op ≠ "-" → ∀ d, NoA H d → E (.ref CH) (some d) (upd H d (.xd [("what", .str "operation")]))) (h3 : (f = "a" ∨ f = "b") → (op = "+" ∨ op = "-") → Q .non H) : spChoice CH [.str f, .str op] H Q E := ⟨f, op, rfl, h1, h2, h3⟩
theorem body_three {f CP CS CC CM CH : Addr} (B : Blt mg) (D : DcT K mg w "THREE" 3) (cS : Cal P w K mg base 3 "spread" (spSpread CC CM)) (cC : Cal P w K mg base 2 "check_choices" (spChoice CH)) (cB : Cal P w K mg base 5 "built" (spBuilt (K := K) CP CS))
    (cdv : Value) (A : Around) (outer : List Env) (s : Shared) (H : Hp) (vs : List V) (Q : VK) (E : XK) (hr : Room 5 (A.deeper (envOfC "three" (defScope S_three) s.heap.objs.size f cdv))) (h : spThB CP CS CC CM CH 3 vs H Q E) :
    ZSs (cxN P w K mg base N_three "three" (defScope S_three) f cdv A outer s H E) (defBody S_three) (fun _ H' => Q .non H') Q (fun _ _ => False) (fun _ _ => False) (start N_three vs) H := by
  have S := nk_three
  obtain ⟨p, ms, fs, op, rfl, hp, hl, o⟩ := h
  obtain ⟨a, ga, hD⟩ := D.ex
  show ZSs _ _ _ _ _ _ [some (.str fs), some (.str op), some (.ref p), none] H
  refine zss_cut (fun σ1 H1 => ∃ q, σ1 = [some (.str fs), some (.str op), some (.ref p), some (.ref q)] ∧ Same H H1 ∧ okN ms 3 ∧ (∀ m ∈ ms, m ∈ modes) ∧ H1 q = some (.lst ((spreadL ms 3).map V.str))) (fun nx hnx => ?_) ?_
  · fail "za"
    refine ⟨p, ms, 3, rfl, hp, by decide, hl, fun a d H' s n e => xw_def (o.many a d H' s n e), fun a i z b c e d H' s n q => xw_def (o.mode a i z b c e d H' s n q), fun a b q H' s n e => ?_⟩
    fail "za"
    exact hnx _ _ ⟨q, rfl, s, a, b, e⟩
  rintro _ H1 ⟨q, rfl, s1, ok, all, hq⟩
  refine zss_cut (fun σ1 H2 => σ1 = [some (.str fs), some (.str op), some (.ref p), some (.ref q)] ∧ H2 = H1 ∧ (fs = "a" ∨ fs = "b") ∧ (op = "+" ∨ op = "-")) (fun nx hnx => ?_) ?_
  · fail "za"
    refine choice_do (fun a b d n => xw_def (o.fbad ok all a b d _ (.new s1 n.e) (n.up s1) upd_same)) (fun a b c d n => xw_def (o.obad ok all a b c d _ (.new s1 n.e) (n.up s1) upd_same)) fun a b => ?_
    exact hnx _ _ ⟨rfl, rfl, a, b⟩
  rintro _ _ ⟨rfl, rfl, hf, hop⟩
  obtain ⟨t, ts, kd, ht, hts⟩ := hD op fs hop hf
  fail "z0"
  · rcases hop with rfl | rfl <;> rcases hf with rfl | rfl <;> exact Nat.le_of_ble_eq_true rfl
  refine xw_kd kd ?_
  fail "za"
  refine ⟨t, q, ts, rowsN 3 op fs, spreadL ms 3, rfl, ht, hts, hq, by rw [rowsN_len (by decide), spreadL_len ok], by rw [rowsN_len (by decide)]; decide, rowsN_ok .., spreadL_ok all, fun p H' s2 n e => o.made ok all hf hop p H' (s1.trans s2) (n.up s1) e⟩
theorem body_six {f CP CS CC CM CH : Addr} (B : Blt mg) (D : DcT K mg w "SIX" 6) (cS : Cal P w K mg base 3 "spread" (spSpread CC CM)) (cC : Cal P w K mg base 2 "check_choices" (spChoice CH)) (cB : Cal P w K mg base 5 "built" (spBuilt (K := K) CP CS))
    (cdv : Value) (A : Around) (outer : List Env) (s : Shared) (H : Hp) (vs : List V) (Q : VK) (E : XK) (hr : Room 5 (A.deeper (envOfC "six" (defScope S_six) s.heap.objs.size f cdv))) (h : spThB CP CS CC CM CH 6 vs H Q E) :
    ZSs (cxN P w K mg base N_six "six" (defScope S_six) f cdv A outer s H E) (defBody S_six) (fun _ H' => Q .non H') Q (fun _ _ => False) (fun _ _ => False) (start N_six vs) H := by
  have S := nk_six
  obtain ⟨p, ms, fs, op, rfl, hp, hl, o⟩ := h
  obtain ⟨a, ga, hD⟩ := D.ex
  show ZSs _ _ _ _ _ _ [some (.str fs), some (.str op), some (.ref p), none] H
  refine zss_cut (fun σ1 H1 => ∃ q, σ1 = [some (.str fs), some (.str op), some (.ref p), some (.ref q)] ∧ Same H H1 ∧ okN ms 6 ∧ (∀ m ∈ ms, m ∈ modes) ∧ H1 q = some (.lst ((spreadL ms 6).map V.str))) (fun nx hnx => ?_) ?_
  · fail "za"
    refine ⟨p, ms, 6, rfl, hp, by decide, hl, fun a d H' s n e => xw_def (o.many a d H' s n e), fun a i z b c e d H' s n q => xw_def (o.mode a i z b c e d H' s n q), fun a b q H' s n e => ?_⟩
    fail "za"
    exact hnx _ _ ⟨q, rfl, s, a, b, e⟩
  rintro _ H1 ⟨q, rfl, s1, ok, all, hq⟩
  refine zss_cut (fun σ1 H2 => σ1 = [some (.str fs), some (.str op), some (.ref p), some (.ref q)] ∧ H2 = H1 ∧ (fs = "a" ∨ fs = "b") ∧ (op = "+" ∨ op = "-")) (fun nx hnx => ?_) ?_
  · fail "za"
    refine choice_do (fun a b d n => xw_def (o.fbad ok all a b d _ (.new s1 n.e) (n.up s1) upd_same)) (fun a b c d n => xw_def (o.obad ok all a b c d _ (.new s1 n.e) (n.up s1) upd_same)) fun a b => ?_
    exact hnx _ _ ⟨rfl, rfl, a, b⟩
  rintro _ _ ⟨rfl, rfl, hf, hop⟩
  obtain ⟨t, ts, kd, ht, hts⟩ := hD op fs hop hf
  fail "z0"
  · rcases hop with rfl | rfl <;> rcases hf with rfl | rfl <;> exact Nat.le_of_ble_eq_true rfl
  refine xw_kd kd ?_
  fail "za"
  refine ⟨t, q, ts, rowsN 6 op fs, spreadL ms 6, rfl, ht, hts, hq, by rw [rowsN_len (by decide), spreadL_len ok], by rw [rowsN_len (by decide)]; decide, rowsN_ok .., spreadL_ok all, fun p H' s2 n e => o.made ok all hf hop p H' (s1.trans s2) (n.up s1) e⟩
/-- three / six as they are called: values, then keywords -/
def spThK (CP CS CC CM CH : Addr) (n : Nat) (g : List V → List V) : List V → List V → Hp → VK → XK → Prop := fun vs zs H Q E => ∃ (ms : List Str) (f op : Str), vs = ms.map V.str ∧ g zs = [.str f, .str op] ∧ ms.length ≤ 100 ∧ SOut CP CS CC CM CH n ms f op H (fun p H' => Q (.ref p) H') E
abbrev kwsT : List (Str × V) := [("first", .str "a"), ("operation", .str "+")]
abbrev FThr (K : PySem.W.Frag) (f : Addr) (fd : FuncData) : Prop := FunD K "three" "three" (defArgs S_three) (defBody S_three) (defScope S_three) [] kwsT f fd
/-- three(.., first=, operation=) -/
theorem k2_three {f CP CS CC CM CH : Addr} {fd : FuncData} (F : FThr K f fd) (gm : mg "three" = some (.ref f)) (B : Blt mg) (D : DcT K mg w "THREE" 3) (cS : Cal P w K mg base 3 "spread" (spSpread CC CM)) (cC : Cal P w K mg base 2 "check_choices" (spChoice CH)) (cB : Cal P w K mg base 5 "built" (spBuilt (K := K) CP CS)) : CalRK P w K mg base 6 "three" ["first", "operation"] (spThK CP CS CC CM CH 3 id) := by
  refine ⟨f, _, FunSK.ok (k := 5) (ks := ["first", "operation"]) (sp := spThB CP CS CC CM CH 3) F sc_three (by simp) [] (fun q h => by cases h) (fun _ zs => zs) (fun _ r => r) (fun {mz zs} h1 h2 => by rw [h2]; rfl) ?_ (fun cdv A outer s H vs Q E hr h => body_three B D cS cC cB cdv A outer s H vs Q E hr h), gm, F.kp, ?_⟩
  · intro D doc pm an cdv ct us mv ws h1 h2
    match mv, h1, ws, h2, us with
    | [], _, [w1, w2], _, [] => exact rfl
    | [], _, [w1, w2], _, u :: us => exact rfl
  · intro vs zs H Q E h
    obtain ⟨ms, f', op, rfl, hz, hl, o⟩ := h
    obtain rfl : zs = [.str f', .str op] := hz
    exact ⟨rfl, by rw [List.length_map, sizeLine_eq]; omega, fun p n => ⟨p, ms, f', op, rfl, upd_same, hl, o.up (.new (.refl _) n)⟩⟩
/-- three(.., first=) -/
theorem k1_three {f CP CS CC CM CH : Addr} {fd : FuncData} (F : FThr K f fd) (gm : mg "three" = some (.ref f)) (B : Blt mg) (D : DcT K mg w "THREE" 3) (cS : Cal P w K mg base 3 "spread" (spSpread CC CM)) (cC : Cal P w K mg base 2 "check_choices" (spChoice CH)) (cB : Cal P w K mg base 5 "built" (spBuilt (K := K) CP CS)) : CalRK P w K mg base 6 "three" ["first"] (spThK CP CS CC CM CH 3 fun zs => zs ++ [.str "+"]) := by
  refine ⟨f, _, FunSK.ok (k := 5) (ks := ["first"]) (sp := spThB CP CS CC CM CH 3) F sc_three (by simp) [("operation", .str "+")] (fun q h => by simp at h; simp [h]) (fun mz zs => zs ++ mz) (fun r1 r2 => r2.append r1) (fun {mz zs} h1 h2 => by rw [List.length_append, h1, h2]; rfl) ?_ (fun cdv A outer s H vs Q E hr h => body_three B D cS cC cB cdv A outer s H vs Q E hr h), gm, F.kp, ?_⟩
  · intro D doc pm an cdv ct us mv ws h1 h2
    match mv, h1, ws, h2, us with
    | [m1], _, [w1], _, [] => exact ⟨_, _, _, _, _, _, rfl, rfl, rfl⟩
    | [m1], _, [w1], _, u :: us => exact ⟨_, _, _, _, _, _, rfl, rfl, rfl⟩
  · intro vs zs H Q E h
    obtain ⟨ms, f', op, rfl, hz, hl, o⟩ := h
    match zs, hz with
    | [z], hz =>
      simp only [List.cons_append, List.nil_append, List.cons.injEq, and_true] at hz
      obtain ⟨rfl, hz⟩ := hz
      obtain rfl : "+" = op := by cases hz; rfl
      exact ⟨rfl, by rw [List.length_map, sizeLine_eq]; omega, fun p n => ⟨p, ms, f', "+", rfl, upd_same, hl, o.up (.new (.refl _) n)⟩⟩
    | [], hz => simp at hz
    | a :: b :: l, hz => simp at hz
abbrev FSix (K : PySem.W.Frag) (f : Addr) (fd : FuncData) : Prop := FunD K "six" "six" (defArgs S_six) (defBody S_six) (defScope S_six) [] kwsT f fd
/-- six(.., first=, operation=) -/
theorem k2_six {f CP CS CC CM CH : Addr} {fd : FuncData} (F : FSix K f fd) (gm : mg "six" = some (.ref f)) (B : Blt mg) (D : DcT K mg w "SIX" 6) (cS : Cal P w K mg base 3 "spread" (spSpread CC CM)) (cC : Cal P w K mg base 2 "check_choices" (spChoice CH)) (cB : Cal P w K mg base 5 "built" (spBuilt (K := K) CP CS)) : CalRK P w K mg base 6 "six" ["first", "operation"] (spThK CP CS CC CM CH 6 id) := by
  refine ⟨f, _, FunSK.ok (k := 5) (ks := ["first", "operation"]) (sp := spThB CP CS CC CM CH 6) F sc_six (by simp) [] (fun q h => by cases h) (fun _ zs => zs) (fun _ r => r) (fun {mz zs} h1 h2 => by rw [h2]; rfl) ?_ (fun cdv A outer s H vs Q E hr h => body_six B D cS cC cB cdv A outer s H vs Q E hr h), gm, F.kp, ?_⟩
  · intro D doc pm an cdv ct us mv ws h1 h2
    match mv, h1, ws, h2, us with
    | [], _, [w1, w2], _, [] => exact rfl
    | [], _, [w1, w2], _, u :: us => exact rfl
  · intro vs zs H Q E h
    obtain ⟨ms, f', op, rfl, hz, hl, o⟩ := h
    obtain rfl : zs = [.str f', .str op] := hz
    exact ⟨rfl, by rw [List.length_map, sizeLine_eq]; omega, fun p n => ⟨p, ms, f', op, rfl, upd_same, hl, o.up (.new (.refl _) n)⟩⟩
/-- six(.., first=) -/
theorem k1_six {f CP CS CC CM CH : Addr} {fd : FuncData} (F : FSix K f fd) (gm : mg "six" = some (.ref f)) (B : Blt mg) (D : DcT K mg w "SIX" 6) (cS : Cal P w K mg base 3 "spread" (spSpread CC CM)) (cC : Cal P w K mg base 2 "check_choices" (spChoice CH)) (cB : Cal P w K mg base 5 "built" (spBuilt (K := K) CP CS)) : CalRK P w K mg base 6 "six" ["first"] (spThK CP CS CC CM CH 6 fun zs => zs ++ [.str "+"]) := by
  refine ⟨f, _, FunSK.ok (k := 5) (ks := ["first"]) (sp := spThB CP CS CC CM CH 6) F sc_six (by simp) [("operation", .str "+")] (fun q h => by simp at h; simp [h]) (fun mz zs => zs ++ mz) (fun r1 r2 => r2.append r1) (fun {mz zs} h1 h2 => by rw [List.length_append, h1, h2]; rfl) ?_ (fun cdv A outer s H vs Q E hr h => body_six B D cS cC cB cdv A outer s H vs Q E hr h), gm, F.kp, ?_⟩
  · intro D doc pm an cdv ct us mv ws h1 h2
    match mv, h1, ws, h2, us with
    | [m1], _, [w1], _, [] => exact ⟨_, _, _, _, _, _, rfl, rfl, rfl⟩
    | [m1], _, [w1], _, u :: us => exact ⟨_, _, _, _, _, _, rfl, rfl, rfl⟩
  · intro vs zs H Q E h
    obtain ⟨ms, f', op, rfl, hz, hl, o⟩ := h
    match zs, hz with
    | [z], hz =>
      simp only [List.cons_append, List.nil_append, List.cons.injEq, and_true] at hz
      obtain ⟨rfl, hz⟩ := hz
      obtain rfl : "+" = op := by cases hz; rfl
      exact ⟨rfl, by rw [List.length_map, sizeLine_eq]; omega, fun p n => ⟨p, ms, f', "+", rfl, upd_same, hl, o.up (.new (.refl _) n)⟩⟩
    | [], hz => simp at hz
    | a :: b :: l, hz => simp at hz
theorem r3pa : rowsN 3 "+" "a" = [⟨"+", 0, 1⟩, ⟨"-", 2, 0⟩, ⟨"-", 1, 3⟩] := by unfold rowsN rows3; rw [if_pos rfl, if_pos rfl, if_pos rfl]
theorem r3pb : rowsN 3 "+" "b" = [⟨"+", 0, 1⟩, ⟨"-", 2, 1⟩, ⟨"-", 0, 3⟩] := by unfold rowsN rows3; rw [if_pos rfl, if_pos rfl, if_neg (by decide +kernel)]
theorem r3ma : rowsN 3 "-" "a" = [⟨"-", 0, 1⟩, ⟨"-", 0, 2⟩, ⟨"-", 3, 1⟩] := by unfold rowsN rows3; rw [if_pos rfl, if_neg (by decide +kernel), if_pos rfl]
theorem r3mb : rowsN 3 "-" "b" = [⟨"-", 0, 1⟩, ⟨"+", 2, 1⟩, ⟨"-", 0, 3⟩] := by unfold rowsN rows3; rw [if_pos rfl, if_neg (by decide +kernel), if_neg (by decide +kernel)]
theorem r6pa : rowsN 6 "+" "a" = [⟨"+", 0, 1⟩, ⟨"-", 2, 1⟩, ⟨"-", 2, 3⟩, ⟨"-", 0, 3⟩, ⟨"-", 1, 4⟩, ⟨"+", 5, 6⟩] := by unfold rowsN rows6; rw [if_neg (by decide), if_pos rfl, if_pos rfl]
theorem r6pb : rowsN 6 "+" "b" = [⟨"+", 0, 1⟩, ⟨"-", 2, 0⟩, ⟨"-", 2, 3⟩, ⟨"-", 1, 3⟩, ⟨"-", 0, 4⟩, ⟨"+", 5, 6⟩] := by unfold rowsN rows6; rw [if_neg (by decide), if_pos rfl, if_neg (by decide +kernel)]
theorem r6ma : rowsN 6 "-" "a" = [⟨"-", 0, 1⟩, ⟨"+", 2, 1⟩, ⟨"-", 3, 2⟩, ⟨"-", 0, 3⟩, ⟨"-", 4, 1⟩, ⟨"+", 5, 6⟩] := by unfold rowsN rows6; rw [if_neg (by decide), if_neg (by decide +kernel), if_pos rfl]
theorem r6mb : rowsN 6 "-" "b" = [⟨"-", 0, 1⟩, ⟨"-", 0, 2⟩, ⟨"+", 2, 3⟩, ⟨"-", 3, 1⟩, ⟨"-", 0, 4⟩, ⟨"+", 5, 6⟩] := by unfold rowsN rows6; rw [if_neg (by decide), if_neg (by decide +kernel), if_neg (by decide +kernel)]
def DcE (K : PySem.W.Frag) (w : World) (a : Addr) (z : Str) (rs : List RwS) : Prop := ∃ (t : Addr) (ts : List Addr), KDct K w a z (.ref t) ∧ (∀ H, SqT K H t (ts.map V.ref)) ∧ ∀ H, Rws K H ts rs
theorem DcT.of {x : Str} {n : Nat} {a : Addr} (g : mg x = some (.ref a)) (h1 : DcE K w a "+a" (rowsN n "+" "a")) (h2 : DcE K w a "+b" (rowsN n "+" "b")) (h3 : DcE K w a "-a" (rowsN n "-" "a")) (h4 : DcE K w a "-b" (rowsN n "-" "b")) : DcT K mg w x n := by
  refine ⟨a, g, fun op f ho hf => ?_⟩
  rcases ho with rfl | rfl <;> rcases hf with rfl | rfl
  · rw [show (("+" : Str) ++ "a") = "+a" by decide +kernel]; exact h1
  · rw [show (("+" : Str) ++ "b") = "+b" by decide +kernel]; exact h2
  · rw [show (("-" : Str) ++ "a") = "-a" by decide +kernel]; exact h3
  · rw [show (("-" : Str) ++ "b") = "-b" by decide +kernel]; exact h4

/-! three, six with other keywords -/
theorem vals_rev : ∀ {vs : List V} {us : List Value}, Vals vs us → Vals vs.reverse us.reverse
  | _, _, .nil => .nil
  | _, _, .cons r rr => by rw [List.reverse_cons, List.reverse_cons]; exact (vals_rev rr).append (.cons r .nil)
/-- three(..) -/
theorem k0_three {f CP CS CC CM CH : Addr} {fd : FuncData} (F : FThr K f fd) (gm : mg "three" = some (.ref f)) (B : Blt mg) (D : DcT K mg w "THREE" 3) (cS : Cal P w K mg base 3 "spread" (spSpread CC CM)) (cC : Cal P w K mg base 2 "check_choices" (spChoice CH)) (cB : Cal P w K mg base 5 "built" (spBuilt (K := K) CP CS)) : CalRK P w K mg base 6 "three" [] (spThK CP CS CC CM CH 3 fun zs => zs ++ [.str "a", .str "+"]) := by
  refine ⟨f, _, FunSK.ok (k := 5) (ks := []) (sp := spThB CP CS CC CM CH 3) F sc_three (by simp) kwsT (fun q h => h) (fun mz zs => zs ++ mz) (fun r1 r2 => r2.append r1) (fun {mz zs} h1 h2 => by rw [List.length_append, h1, h2]; rfl) ?_ (fun cdv A outer s H vs Q E hr h => body_three B D cS cC cB cdv A outer s H vs Q E hr h), gm, F.kp, ?_⟩
  · intro D doc pm an cdv ct us mv ws h1 h2
    match mv, h1, ws, h2, us with
    | [m1, m2], _, [], _, [] => exact ⟨_, _, _, _, _, _, rfl, rfl, _, _, _, _, _, _, rfl, rfl, rfl⟩
    | [m1, m2], _, [], _, u :: us => exact ⟨_, _, _, _, _, _, rfl, rfl, _, _, _, _, _, _, rfl, rfl, rfl⟩
  · intro vs zs H Q E h
    obtain ⟨ms, f', op, rfl, hz, hl, o⟩ := h
    match zs, hz with
    | [], hz =>
      obtain ⟨rfl, rfl⟩ : "a" = f' ∧ "+" = op := by simpa using hz
      exact ⟨rfl, by rw [List.length_map, sizeLine_eq]; omega, fun p n => ⟨p, ms, "a", "+", rfl, upd_same, hl, o.up (.new (.refl _) n)⟩⟩
    | a :: l, hz => exact absurd (congrArg List.length hz) (by simp)
/-- three(.., operation=) -/
theorem ko_three {f CP CS CC CM CH : Addr} {fd : FuncData} (F : FThr K f fd) (gm : mg "three" = some (.ref f)) (B : Blt mg) (D : DcT K mg w "THREE" 3) (cS : Cal P w K mg base 3 "spread" (spSpread CC CM)) (cC : Cal P w K mg base 2 "check_choices" (spChoice CH)) (cB : Cal P w K mg base 5 "built" (spBuilt (K := K) CP CS)) : CalRK P w K mg base 6 "three" ["operation"] (spThK CP CS CC CM CH 3 fun zs => .str "a" :: zs) := by
  refine ⟨f, _, FunSK.ok (k := 5) (ks := ["operation"]) (sp := spThB CP CS CC CM CH 3) F sc_three (by simp) [("first", .str "a")] (fun q h => by simp at h; simp [h]) (fun mz zs => mz ++ zs) (fun r1 r2 => r1.append r2) (fun {mz zs} h1 h2 => by rw [List.length_append, h1, h2]; rfl) ?_ (fun cdv A outer s H vs Q E hr h => body_three B D cS cC cB cdv A outer s H vs Q E hr h), gm, F.kp, ?_⟩
  · intro D doc pm an cdv ct us mv ws h1 h2
    match mv, h1, ws, h2, us with
    | [m1], _, [w1], _, [] => exact ⟨_, _, _, _, _, _, rfl, rfl, rfl⟩
    | [m1], _, [w1], _, u :: us => exact ⟨_, _, _, _, _, _, rfl, rfl, rfl⟩
  · intro vs zs H Q E h
    obtain ⟨ms, f', op, rfl, hz, hl, o⟩ := h
    obtain ⟨rfl, rfl⟩ : "a" = f' ∧ zs = [.str op] := by simpa using hz
    exact ⟨rfl, by rw [List.length_map, sizeLine_eq]; omega, fun p n => ⟨p, ms, "a", op, rfl, upd_same, hl, o.up (.new (.refl _) n)⟩⟩
/-- three(.., operation=, first=) -/
theorem kr_three {f CP CS CC CM CH : Addr} {fd : FuncData} (F : FThr K f fd) (gm : mg "three" = some (.ref f)) (B : Blt mg) (D : DcT K mg w "THREE" 3) (cS : Cal P w K mg base 3 "spread" (spSpread CC CM)) (cC : Cal P w K mg base 2 "check_choices" (spChoice CH)) (cB : Cal P w K mg base 5 "built" (spBuilt (K := K) CP CS)) : CalRK P w K mg base 6 "three" ["operation", "first"] (spThK CP CS CC CM CH 3 List.reverse) := by
  refine ⟨f, _, FunSK.ok (k := 5) (ks := ["operation", "first"]) (sp := spThB CP CS CC CM CH 3) F sc_three (by simp) [] (fun q h => by cases h) (fun _ zs => zs.reverse) (fun _ r => vals_rev r) (fun {mz zs} h1 h2 => by rw [List.length_reverse, h2]; rfl) ?_ (fun cdv A outer s H vs Q E hr h => body_three B D cS cC cB cdv A outer s H vs Q E hr h), gm, F.kp, ?_⟩
  · intro D doc pm an cdv ct us mv ws h1 h2
    match mv, h1, ws, h2, us with
    | [], _, [w1, w2], _, [] => exact rfl
    | [], _, [w1, w2], _, u :: us => exact rfl
  · intro vs zs H Q E h
    obtain ⟨ms, f', op, rfl, hz, hl, o⟩ := h
    obtain rfl : zs = [.str op, .str f'] := by rw [← List.reverse_reverse zs, hz]; rfl
    exact ⟨rfl, by rw [List.length_map, sizeLine_eq]; omega, fun p n => ⟨p, ms, f', op, rfl, upd_same, hl, o.up (.new (.refl _) n)⟩⟩
/-- six(..) -/
theorem k0_six {f CP CS CC CM CH : Addr} {fd : FuncData} (F : FSix K f fd) (gm : mg "six" = some (.ref f)) (B : Blt mg) (D : DcT K mg w "SIX" 6) (cS : Cal P w K mg base 3 "spread" (spSpread CC CM)) (cC : Cal P w K mg base 2 "check_choices" (spChoice CH)) (cB : Cal P w K mg base 5 "built" (spBuilt (K := K) CP CS)) : CalRK P w K mg base 6 "six" [] (spThK CP CS CC CM CH 6 fun zs => zs ++ [.str "a", .str "+"]) := by
  refine ⟨f, _, FunSK.ok (k := 5) (ks := []) (sp := spThB CP CS CC CM CH 6) F sc_six (by simp) kwsT (fun q h => h) (fun mz zs => zs ++ mz) (fun r1 r2 => r2.append r1) (fun {mz zs} h1 h2 => by rw [List.length_append, h1, h2]; rfl) ?_ (fun cdv A outer s H vs Q E hr h => body_six B D cS cC cB cdv A outer s H vs Q E hr h), gm, F.kp, ?_⟩
  · intro D doc pm an cdv ct us mv ws h1 h2
    match mv, h1, ws, h2, us with
    | [m1, m2], _, [], _, [] => exact ⟨_, _, _, _, _, _, rfl, rfl, _, _, _, _, _, _, rfl, rfl, rfl⟩
    | [m1, m2], _, [], _, u :: us => exact ⟨_, _, _, _, _, _, rfl, rfl, _, _, _, _, _, _, rfl, rfl, rfl⟩
  · intro vs zs H Q E h
    obtain ⟨ms, f', op, rfl, hz, hl, o⟩ := h
    match zs, hz with
    | [], hz =>
      obtain ⟨rfl, rfl⟩ : "a" = f' ∧ "+" = op := by simpa using hz
      exact ⟨rfl, by rw [List.length_map, sizeLine_eq]; omega, fun p n => ⟨p, ms, "a", "+", rfl, upd_same, hl, o.up (.new (.refl _) n)⟩⟩
    | a :: l, hz => exact absurd (congrArg List.length hz) (by simp)
/-- six(.., operation=) -/
theorem ko_six {f CP CS CC CM CH : Addr} {fd : FuncData} (F : FSix K f fd) (gm : mg "six" = some (.ref f)) (B : Blt mg) (D : DcT K mg w "SIX" 6) (cS : Cal P w K mg base 3 "spread" (spSpread CC CM)) (cC : Cal P w K mg base 2 "check_choices" (spChoice CH)) (cB : Cal P w K mg base 5 "built" (spBuilt (K := K) CP CS)) : CalRK P w K mg base 6 "six" ["operation"] (spThK CP CS CC CM CH 6 fun zs => .str "a" :: zs) := by
  refine ⟨f, _, FunSK.ok (k := 5) (ks := ["operation"]) (sp := spThB CP CS CC CM CH 6) F sc_six (by simp) [("first", .str "a")] (fun q h => by simp at h; simp [h]) (fun mz zs => mz ++ zs) (fun r1 r2 => r1.append r2) (fun {mz zs} h1 h2 => by rw [List.length_append, h1, h2]; rfl) ?_ (fun cdv A outer s H vs Q E hr h => body_six B D cS cC cB cdv A outer s H vs Q E hr h), gm, F.kp, ?_⟩
  · intro D doc pm an cdv ct us mv ws h1 h2
    match mv, h1, ws, h2, us with
    | [m1], _, [w1], _, [] => exact ⟨_, _, _, _, _, _, rfl, rfl, rfl⟩
    | [m1], _, [w1], _, u :: us => exact ⟨_, _, _, _, _, _, rfl, rfl, rfl⟩
  · intro vs zs H Q E h
    obtain ⟨ms, f', op, rfl, hz, hl, o⟩ := h
    obtain ⟨rfl, rfl⟩ : "a" = f' ∧ zs = [.str op] := by simpa using hz
    exact ⟨rfl, by rw [List.length_map, sizeLine_eq]; omega, fun p n => ⟨p, ms, "a", op, rfl, upd_same, hl, o.up (.new (.refl _) n)⟩⟩
/-- six(.., operation=, first=) -/
theorem kr_six {f CP CS CC CM CH : Addr} {fd : FuncData} (F : FSix K f fd) (gm : mg "six" = some (.ref f)) (B : Blt mg) (D : DcT K mg w "SIX" 6) (cS : Cal P w K mg base 3 "spread" (spSpread CC CM)) (cC : Cal P w K mg base 2 "check_choices" (spChoice CH)) (cB : Cal P w K mg base 5 "built" (spBuilt (K := K) CP CS)) : CalRK P w K mg base 6 "six" ["operation", "first"] (spThK CP CS CC CM CH 6 List.reverse) := by
  refine ⟨f, _, FunSK.ok (k := 5) (ks := ["operation", "first"]) (sp := spThB CP CS CC CM CH 6) F sc_six (by simp) [] (fun q h => by cases h) (fun _ zs => zs.reverse) (fun _ r => vals_rev r) (fun {mz zs} h1 h2 => by rw [List.length_reverse, h2]; rfl) ?_ (fun cdv A outer s H vs Q E hr h => body_six B D cS cC cB cdv A outer s H vs Q E hr h), gm, F.kp, ?_⟩
  · intro D doc pm an cdv ct us mv ws h1 h2
    match mv, h1, ws, h2, us with
    | [], _, [w1, w2], _, [] => exact rfl
    | [], _, [w1, w2], _, u :: us => exact rfl
  · intro vs zs H Q E h
    obtain ⟨ms, f', op, rfl, hz, hl, o⟩ := h
    obtain rfl : zs = [.str op, .str f'] := by rw [← List.reverse_reverse zs, hz]; rfl
    exact ⟨rfl, by rw [List.length_map, sizeLine_eq]; omega, fun p n => ⟨p, ms, f', op, rfl, upd_same, hl, o.up (.new (.refl _) n)⟩⟩

/-! Step.__eq__, Program.__eq__, Program.__len__ -/
instance : DecidableEq Stp := fun a b => decidable_of_iff (a.op = b.op ∧ a.l = b.l ∧ a.r = b.r ∧ a.m = b.m) ⟨fun h => by cases a; cases b; obtain ⟨h1, h2, h3, h4⟩ := h; dsimp only at h1 h2 h3 h4; subst h1 h2 h3 h4; rfl, fun h => by subst h; exact ⟨rfl, rfl, rfl, rfl⟩⟩
/-- what isinstance says of the built-in types and an own class -/
structure NotI (K : PySem.W.Frag) (C : Addr) : Prop where
  no : ∀ T, BT6 T → PySem.W.kitOne K (.type T) (.ref C) = some false
theorem TyB.tyx {K : PySem.W.Frag} {H : Hp} {y : V} {T : String} (h : TyB K H y T) (b : BT6 T) : TyX K H y (.type T) := by
  cases h with
  | non => exact .base .non
  | bl c => exact .base (.bl c)
  | int c => exact .base (.int c)
  | str c => exact .base (.str c)
  | byt c => simp [BT6] at b
  | lst h => exact .ofL h
  | tup h => exact .ofT h
  | dK h => simp [BT6] at b
/-- y is of another kind than C -/
inductive Oth (K : PySem.W.Frag) (H : Hp) (C : Addr) : V → Prop
  | ty {y : V} {T : String} (h : BT6 T) (b : TyB K H y T) : Oth K H C y
  | ins {q D dx : Addr} {fs : List (Str × V)} (i : ClsI K D) (n : PySem.W.kitOne K (.ref D) (.ref C) = some false) (e : H q = some (.ins D dx fs)) : Oth K H C (.ref q)
def spSEq (K : PySem.W.Frag) (CS : Addr) : Sp := fun vs H Q _ => ∃ (p : Addr) (y : V) (s : Stp), vs = [.ref p, y] ∧ StF CS H p s ∧ ((Oth K H CS y ∧ Q (.bl false) H) ∨ ∃ (q : Addr) (t : Stp), y = .ref q ∧ StF CS H q t ∧ Q (.bl (decide (s = t))) H)
theorem ok_seq {f CS : Addr} {fd : FuncData} (F : Fun K "__eq__" "Step.__eq__" S_Step___eq__ f fd) (B : Blt mg) (T : StTxt K mg CS) (N : NotI K CS) : FnOk P w K mg base (L2N.CX P w) 1 f fd ["self", "other"] (spSEq K CS) := by
  have S := nk_Step___eq__
  obtain ⟨I, g, no, nl, nr, nm⟩ := T
  have cl := I.cl
  refine F.okN sc_Step___eq__ (fun vs H Q E h => ?_) (fun cdv A outer s H vs Q E hr h => ?_)
  · obtain ⟨p, y, s, rfl, _⟩ := h; rfl
  · obtain ⟨p, y, st, rfl, ⟨dx, hp⟩, ⟨ot, hQ⟩ | ⟨q, t, rfl, ⟨dy, hq⟩, hQ⟩⟩ := h
    · cases ot with
      | ty hT hb =>
        have tx := TyB.tyx hb hT
        have no := N.no _ hT
        show ZSs _ _ _ _ _ _ [some (.ref p), some y] H
        refine zss_cons ?_
        refine zs_if ?_
        fail "za"
        exact hQ
      | ins i n e =>
        rename_i q D dq fs
        show ZSs _ _ _ _ _ _ [some (.ref p), some (.ref q)] H
        refine zss_cons ?_
        refine zs_if ?_
        fail "za"
        exact hQ
    · unfold fsS at hp hq
      have key : ∀ b : Bool, (b = true ↔ st.op = t.op ∧ st.m = t.m ∧ st.l = t.l ∧ st.r = t.r) → Q (.bl b) H := fun b hb => by
        have : decide (st = t) = b := by
          by_cases e : st = t
          · rw [decide_eq_true e]
            exact (hb.mpr (by subst e; exact ⟨rfl, rfl, rfl, rfl⟩)).symm
          · rw [decide_eq_false e]
            cases b with
            | false => rfl
            | true =>
              obtain ⟨e1, e2, e3, e4⟩ := hb.mp rfl
              exact absurd (by cases st; cases t; dsimp only at e1 e2 e3 e4; subst e1 e2 e3 e4; rfl) e
        rwa [this] at hQ
      show ZSs _ _ _ _ _ _ [some (.ref p), some (.ref q)] H
      fail "z0"
      all_goals
        refine key _ ?_
        simp_all
def spPEq (K : PySem.W.Frag) (CP CS : Addr) : Sp := fun vs H Q _ => ∃ (p : Addr) (y : V) (ss : List Stp), vs = [.ref p, y] ∧ PrF CP CS H p ss ∧ ((Oth K H CP y ∧ Q (.bl false) H) ∨ ∃ (q : Addr) (ts : List Stp), y = .ref q ∧ PrF CP CS H q ts ∧ Q (.bl (decide (ss = ts))) H)
theorem ok_peq {f CP CS : Addr} {fd : FuncData} (F : Fun K "__eq__" "Program.__eq__" S_Program___eq__ f fd) (B : Blt mg) (T : PrTxt K mg CP) (N : NotI K CP) (eS : CalM P w K mg base 1 CS "__eq__" (spSEq K CS)) : FnOk P w K mg base (L2N.CX P w) 3 f fd ["self", "other"] (spPEq K CP CS) := by
  have S := nk_Program___eq__
  obtain ⟨I, gP, ns, mc, rd, u1, v1⟩ := T
  have cl := I.cl
  refine F.okN sc_Program___eq__ (fun vs H Q E h => ?_) (fun cdv A outer s H vs Q E hr h => ?_)
  · obtain ⟨p, y, s, rfl, _⟩ := h; rfl
  · obtain ⟨p, y, ss, rfl, ⟨dx, l, ps, hp, hl, hs⟩, ⟨ot, hQ⟩ | ⟨q, ts, rfl, ⟨dy, l2, qs, hq, hl2, hs2⟩, hQ⟩⟩ := h
    · cases ot with
      | ty hT hb =>
        have tx := TyB.tyx hb hT
        have no := N.no _ hT
        show ZSs _ _ _ _ _ _ [some (.ref p), some y] H
        refine zss_cons ?_
        refine zs_if ?_
        fail "za"
        exact hQ
      | ins i n e =>
        rename_i q D dq fs
        show ZSs _ _ _ _ _ _ [some (.ref p), some (.ref q)] H
        refine zss_cons ?_
        refine zs_if ?_
        fail "za"
        exact hQ
    · show ZSs _ _ _ _ _ _ [some (.ref p), some (.ref q)] H
      fail "z0"
      by_cases hn : ps.length = qs.length
      · refine ow_eqLO (e := fun i => decide (ss[i]? = ts[i]?)) eS hr (by decide) ⟨rfl, rfl, rfl, rfl, rfl, rfl⟩ hl hl2 hn (fun i a b ha hb => ?_) (fun all => ?_) (fun i hi he => ?_)
        · have la : i < ps.length := (List.getElem?_eq_some_iff.mp ha).1
          obtain ⟨s1, e1⟩ : ∃ s1, ss[i]? = some s1 := ⟨_, List.getElem?_eq_getElem (by rw [← hs.1]; exact la)⟩
          obtain ⟨t1, e2⟩ : ∃ t1, ts[i]? = some t1 := ⟨_, List.getElem?_eq_getElem (by rw [← hs2.1]; omega)⟩
          obtain ⟨da, fa⟩ := hs.2 i a s1 ha e1
          obtain ⟨db, fb⟩ := hs2.2 i b t1 hb e2
          refine ⟨⟨da, _, fa⟩, ⟨db, _, fb⟩, fun e => ?_, fun _ => ⟨a, .ref b, s1, rfl, ⟨da, fa⟩, .inr ⟨b, t1, rfl, ⟨db, fb⟩, ?_, rfl⟩⟩⟩
          · subst e
            rw [fa] at fb
            have : fsS s1 = fsS t1 := by injection fb with q; injection q
            rw [e1, e2]
            refine decide_eq_true (congrArg some ?_)
            cases s1; cases t1
            simp [fsS] at this
            obtain ⟨h1, h2, h3, h4⟩ := this
            subst h1 h2 h3 h4
            rfl
          · rw [e1, e2]
            exact congrArg V.bl (decide_eq_decide.mpr ⟨fun h => by rw [h], fun h => Option.some.inj h⟩)
        · have e : ss = ts := by
            refine List.ext_getElem? fun i => ?_
            by_cases hi : i < ps.length
            · exact of_decide_eq_true (all i hi)
            · rw [List.getElem?_eq_none (by rw [← hs.1]; omega), List.getElem?_eq_none (by rw [← hs2.1]; omega)]
          rw [decide_eq_true e] at hQ
          exact hQ
        · rw [decide_eq_false (fun e : ss = ts => by rw [e] at he; simp at he)] at hQ
          exact hQ
      · refine ow_neLO hr ⟨rfl, rfl, rfl, rfl, rfl, rfl⟩ hl hl2 (by simpa using hn) ?_
        rw [decide_eq_false (fun e : ss = ts => by subst e; exact hn (hs.1.trans hs2.1.symm))] at hQ
        exact hQ
def spPLen (CP CS : Addr) : Sp := fun vs H Q _ => ∃ (p : Addr) (ss : List Stp), vs = [.ref p] ∧ PrF CP CS H p ss ∧ Q (.int ss.length) H
theorem ok_plen {f CP CS : Addr} {fd : FuncData} (F : Fun K "__len__" "Program.__len__" S_Program___len__ f fd) (B : Blt mg) (T : PrTxt K mg CP) : FnOk P w K mg base (L2N.CX P w) 1 f fd ["self"] (spPLen CP CS) := by
  have S := nk_Program___len__
  obtain ⟨I, gP, ns, mc, rd, u1, v1⟩ := T
  have cl := I.cl
  refine F.okN sc_Program___len__ (fun vs H Q E h => ?_) (fun cdv A outer s H vs Q E hr h => ?_)
  · obtain ⟨p, s, rfl, _⟩ := h; rfl
  · obtain ⟨p, ss, rfl, ⟨dx, l, ps, hp, hl, hs⟩, hQ⟩ := h
    show ZSs _ _ _ _ _ _ [some (.ref p)] H
    fail "z0"
    rw [List.length_map, hs.1]
    exact hQ

/-! _law_rows, _law_program (of laws/k35) -/
def RwL (K : PySem.W.Frag) (H : Hp) (q : Addr) (rs : List RwS) : Prop := ∃ ts : List Addr, H q = some (.lst (ts.map V.ref)) ∧ Rws K H ts rs
theorem RwL.same {H H' : Hp} {q : Addr} {rs : List RwS} (h : RwL K H q rs) (s : Same H H') : RwL K H' q rs := by
  obtain ⟨ts, a, b⟩ := h
  exact ⟨ts, s _ _ a, b.same s⟩
theorem RwF.mk {H : Hp} {t : Addr} {a : Str} {b c : Int} (h : H t = some (.tup [.str a, .int b, .int c])) : RwF K H t ⟨a, b, c⟩ := SqT.of h
def kN (kind : Str) : Nat := if kind = "three" then 3 else 6
theorem kN_ok (kind : Str) : kN kind = 3 ∨ kN kind = 6 := by unfold kN; split <;> simp
def spRows (K : PySem.W.Frag) : Sp := fun vs H Q _ => ∃ (kind f op : Str), vs = [.str kind, .str f, .str op] ∧ ∀ q H', Same H H' → NoA H q → RwL K H' q (rowsN (kN kind) op f) → Q (.ref q) H'
theorem rows_do {kind f op : Str} {H : Hp} {Q : VK} {E : XK} (k : ∀ q H', Same H H' → NoA H q → RwL K H' q (rowsN (kN kind) op f) → Q (.ref q) H') : spRows K [.str kind, .str f, .str op] H Q E := ⟨kind, f, op, rfl, k⟩
theorem ok_rows {f : Addr} {fd : FuncData} (F : Fun K "_law_rows" "_law_rows" S__law_rows f fd) : FnOk P w K mg base (L2N.CX P w) 1 f fd ["kind", "first", "operation"] (spRows K) := by
  have S := nk__law_rows
  refine F.okN sc__law_rows (fun vs H Q E h => ?_) (fun cdv A outer s H vs Q E hr h => ?_)
  · obtain ⟨kind, f, op, rfl, _⟩ := h; rfl
  · obtain ⟨kind, f, op, rfl, hQ⟩ := h
    show ZSs _ _ _ _ _ _ [some (.str kind), some (.str f), some (.str op)] H
    fail "z0"
    all_goals
      refine hQ _ _ (by fail "zsm") (by first | assumption | (refine NoA.up (by assumption) ?_; fail "zsm")) ?_
      unfold rowsN kN rows3 rows6
      repeat' split
      all_goals first
        | contradiction
        | (exfalso; omega)
        | exact ⟨[_, _, _], upd_same, .cons (RwF.mk (by fail "zh")) (.cons (RwF.mk (by fail "zh")) (.cons (RwF.mk (by fail "zh")) .nil))⟩
        | exact ⟨[_, _, _, _, _, _], upd_same, .cons (RwF.mk (by fail "zh")) (.cons (RwF.mk (by fail "zh")) (.cons (RwF.mk (by fail "zh")) (.cons (RwF.mk (by fail "zh")) (.cons (RwF.mk (by fail "zh")) (.cons (RwF.mk (by fail "zh")) .nil)))))⟩
def spProg (K : PySem.W.Frag) (CP CS : Addr) : Sp := fun vs H Q _ => ∃ (a b : Addr) (rs : List RwS) (ms : List Str), vs = [.ref a, .ref b] ∧ RwL K H a rs ∧ H b = some (.lst (ms.map V.str)) ∧ rs.length = ms.length ∧ rs.length ≤ 12 ∧ okRows 0 rs = true ∧ (∀ m ∈ ms, m ∈ modes) ∧ ∀ p H', Same H H' → NoA H p → PrF CP CS H' p (stepsOf rs ms) → Q (.ref p) H'
theorem NoAny.up {H H' : Hp} {a : Addr} (n : NoA H' a) (s : Same H H') : NoA H a := n.up s
section
local macro_rules | `(tactic| fail "zP") => `(tactic| ((with_reducible refine' st_do ?na ?nd (fun _ _ _ => ?k)); (case na => assumption); (case nd => assumption)))
local macro_rules | `(tactic| fail "zOwn") => `(tactic| ((with_reducible refine' ow_binX ?bm ?cm ?hc ?no ?ne ‹Room _ _› ?hk ?hX ?ea ?eb ?k); (case bm => fail "zbin"); (case ea => fail "zh"); (case eb => fail "zh"); (case cm => (with_reducible assumption)); (case hc => assumption); (case no => assumption); (case ne => assumption); (case hk => fail "zlev"); (case hX => exact ⟨rfl, rfl, rfl, rfl, rfl, rfl⟩)))
local macro_rules | `(tactic| fail "zx") => `(tactic| (refine' xw_lst (SqL.of ?q1) (atI_nat ?q2) ?_; (case q1 => fail "zh"); (case q2 => assumption)))
local macro_rules | `(tactic| fail "zx") => `(tactic| (refine' xw_tup ?q1 ?q2 ?_; (case q1 => assumption); (case q2 => rfl)))
theorem ok_lprog {f CP CS CC CB : Addr} {fd : FuncData} (F : Fun K "_law_program" "_law_program" S__law_program f fd) (cP : CalCR P w K mg base 3 "Program" CP (spPr CP CS CC CB)) (cS : CalC P w K mg base 1 "Step" CS (spSt CS)) (aP : CalM P w K mg base 5 CP "__add__" (spAdd CP CS CC CB)) (sf : PySem.W.selfFirst K CP = true) (NO : NoOp K CS (Operator.info .Add).2) (hCC : CP ≠ CS) (B : Blt mg) : FnOk P w K mg base (L2N.CX P w) 6 f fd ["rows", "modes"] (spProg K CP CS) := by
  have S := nk__law_program
  refine F.okN sc__law_program (fun vs H Q E h => ?_) (fun cdv A outer s H vs Q E hr h => ?_)
  · obtain ⟨a, b, rs, ms, rfl, _⟩ := h; rfl
  · obtain ⟨a, b, rs, ms, rfl, ⟨ts, ha, hts⟩, hb, hlen, h12, okr, okm, hQ⟩ := h
    have tl := hts.1
    have hl : ((ts.map V.ref).length : Int) = rs.length := by rw [List.length_map, hts.1]
    have sl : (stepsOf rs ms).length = rs.length := stepsOf.len hlen
    show ZSs _ _ _ _ _ _ [some (.ref a), some (.ref b), none, none] H
    refine zss_cut (fun σ1 H1 => ∃ g, σ1 = [some (.ref a), some (.ref b), some (.ref g), none] ∧ Same H H1 ∧ NoA H g ∧ PrF CP CS H1 g []) (fun nx hnx => ?_) ?_
    · fail "za"
      rename_i g d ng nd nn
      refine pr_do (qs := []) ng nd Sts.nil (by decide) (Q := fun g H' => nx [some (.ref a), some (.ref b), some (.ref g), none] H') ⟨fun z => absurd z (by decide), fun _ i s z a => by simp at a, fun _ _ g H' s1 ng hg => hnx _ _ ⟨g, rfl, s1, ng, hg⟩⟩ fun H' q => ⟨rfl, _, _, by fail "sat", by decide, q⟩
    rintro _ H1 ⟨g, rfl, s1, ng, hg⟩
    have ha1 := s1 _ _ ha
    refine zss_cons ?_
    refine zs_forR pass_def rfl B.range ?_
    fail "zz"
    refine ⟨by omega, by omega, fun i σ H' => ∃ g c, σ = [some (.ref a), some (.ref b), some (.ref g), c] ∧ Same H H' ∧ NoA H g ∧ PrF CP CS H' g ((stepsOf rs ms).take i), ⟨g, _, rfl, s1, ng, hg⟩, ?_, ?_⟩
    · rintro i σ H2 hi ⟨g, c, rfl, s2, ng, hg⟩
      have hi' : i < rs.length := by omega
      obtain ⟨r, hr'⟩ : ∃ r, rs[i]? = some r := ⟨_, List.getElem?_eq_getElem hi'⟩
      obtain ⟨m, hm⟩ : ∃ m, ms[i]? = some m := ⟨_, List.getElem?_eq_getElem (by omega)⟩
      obtain ⟨t, ht, hrt⟩ := (hts.same s2).get hr'
      unfold RwF at hrt
      have ha2 := s2 _ _ ha
      have hb2 := s2 _ _ hb
      have ht' : (ts.map V.ref)[i]? = some (.ref t) := by rw [List.getElem?_map, ht]; rfl
      have hm' : (ms.map V.str)[i]? = some (.str m) := by rw [List.getElem?_map, hm]; rfl
      have hget := stepsOf.at hr' hm
      obtain ⟨dg, lg, qg, eg1, eg2, eg3⟩ := id hg
      fail "za"
      rename_i st dx nst ndx nd3 H3 s3 hst
      obtain ⟨ds, es⟩ := id hst
      have eg4 := s3 _ _ eg1
      fail "za"
      have etk : (stepsOf rs ms).take (i + 1) = (stepsOf rs ms).take i ++ [⟨r.op, r.l, r.r, m⟩] := by rw [List.take_add_one, hget]; rfl
      have ltk : ((stepsOf rs ms).take (i + 1)).length ≤ 12 := by rw [List.length_take]; omega
      refine ⟨g, st, (stepsOf rs ms).take i, ⟨r.op, r.l, r.r, m⟩, rfl, hg.same s3, hst, by rw [List.length_take]; omega, ?_⟩
      rw [← etk]
      have okt : ∀ (j : Nat) (s : Stp), ((stepsOf rs ms).take (i + 1))[j]? = some s → invP s ((j : Int) + 1) = none := fun j s h => by
        rw [List.getElem?_take] at h
        split at h
        · exact stepsOf.ok okr okm j s h
        · cases h
      exact ⟨fun z => absurd z (by omega), fun _ j s z e1 _ e3 => (by rw [okt j s e1] at e3; cases e3), fun _ _ p H4 s4 np hp => ⟨_, _, by fail "sat", by decide, p, _, rfl, (s2.trans s3).trans s4, np.up (s2.trans s3), hp⟩⟩
    · rintro σ H2 ⟨g, c, rfl, s2, ng, hg⟩
      rw [hl, Int.toNat_natCast, ← sl, List.take_length] at hg
      fail "za"
      exact hQ g _ s2 ng hg
end
theorem SOut.def {CP CS CC CM CH : Addr} {n : Nat} {ms : List Str} {fst op : Str} {H : Hp} {Q : Addr → Hp → Prop} {N : List Str} {qual : Str} {scope : Scope} {f : Addr} {cdv : Value} {A : Around} {outer : List Env} {s : Shared} {H0 : Hp} {E : XK} {σ : L2.St} (o : SOut CP CS CC CM CH n ms fst op H Q E) : SOut CP CS CC CM CH n ms fst op H Q (fun cls d H' => XW (cxN P w K mg base N qual scope f cdv A outer s H0 E) cls d σ H') :=
  ⟨fun a d H' s n e => xw_def (o.many a d H' s n e), fun a i z b c e d H' s n q => xw_def (o.mode a i z b c e d H' s n q), fun a b c d e H' s n q => xw_def (o.fbad a b c d e H' s n q), fun a b c d e g H' s n q => xw_def (o.obad a b c d e g H' s n q), o.made⟩
def okN_dec (ms : List Str) (n : Nat) : ¬ okN ms n ↔ (ms.length ≠ 0 ∧ ms.length ≠ 1 ∧ ms.length ≠ n) := by
  unfold okN
  constructor
  · intro h; exact ⟨fun e => h (.inl e), fun e => h (.inr (.inl e)), fun e => h (.inr (.inr e))⟩
  · rintro ⟨a, b, c⟩ (e | e | e)
    · exact a e
    · exact b e
    · exact c e

/-! law_k34 -/
def spTW (CP CS : Addr) (n : Nat) : Sp := fun vs H Q _ => ∃ (a : Addr) (way : Int) (f op : Str) (ms : List Str), vs = [.ref a, .int way, .str f, .str op] ∧ H a = some (.lst (ms.map V.str)) ∧ okN ms n ∧ (∀ m ∈ ms, m ∈ modes) ∧ 0 ≤ way ∧ way < 4 ∧ (f = "a" ∨ f = "b") ∧ (op = "+" ∨ op = "-") ∧ ((way = 1 ∨ way = 3) → op = "+") ∧ ((way = 2 ∨ way = 3) → f = "a") ∧
  ∀ p H', Same H H' → NoA H p → PrF CP CS H' p (stepsOf (rowsN n op f) (spreadL ms n)) → Q (.ref p) H'
theorem SOut.good {CP CS CC CM CH : Addr} {n : Nat} {ms : List Str} {fst op : Str} {H : Hp} {Q : Addr → Hp → Prop} {E : XK} (ok : okN ms n) (all : ∀ m ∈ ms, m ∈ modes) (hf : fst = "a" ∨ fst = "b") (ho : op = "+" ∨ op = "-") (k : ∀ p H', Same H H' → NoA H p → PrF CP CS H' p (stepsOf (rowsN n op fst) (spreadL ms n)) → Q p H') : SOut CP CS CC CM CH n ms fst op H Q E :=
  ⟨fun no => absurd ok no, fun _ i z e1 e2 _ => absurd (all z (List.mem_of_getElem? e1)) e2, fun _ _ z1 z2 => (hf.elim z1 z2).elim, fun _ _ _ z1 z2 => (ho.elim z1 z2).elim, fun _ _ _ _ => k⟩
structure Calls (P : Program) (w : World) (K : PySem.W.Frag) (mg : Str → Option Value) (base : Heap) (x : Str) (n : Nat) (CP CS CC CM CH : Addr) : Prop where
  k2 : CalRK P w K mg base 6 x ["first", "operation"] (spThK CP CS CC CM CH n id)
  kr : CalRK P w K mg base 6 x ["operation", "first"] (spThK CP CS CC CM CH n List.reverse)
  k1 : CalRK P w K mg base 6 x ["first"] (spThK CP CS CC CM CH n fun zs => zs ++ [.str "+"])
  ko : CalRK P w K mg base 6 x ["operation"] (spThK CP CS CC CM CH n fun zs => .str "a" :: zs)
  k0 : CalRK P w K mg base 6 x [] (spThK CP CS CC CM CH n fun zs => zs ++ [.str "a", .str "+"])
section
local macro_rules | `(tactic| fail "zD") => `(tactic| first
  | ((with_reducible refine' s_callRK (Calls.k2 ‹_›) ‹Room _ _› ?hk ?hX ?k ?hg ?hall ?hks ?hdb ?he ?hpl); (case hks => rfl); (case hk => fail "zlev"); (case hX => exact ⟨rfl, rfl, rfl, rfl, rfl, rfl⟩); (case hg => rfl); (case hall => rfl); (case hdb => decide); (case he => rfl); (case hpl => rfl))
  | ((with_reducible refine' s_callRK (Calls.kr ‹_›) ‹Room _ _› ?hk ?hX ?k ?hg ?hall ?hks ?hdb ?he ?hpl); (case hks => rfl); (case hk => fail "zlev"); (case hX => exact ⟨rfl, rfl, rfl, rfl, rfl, rfl⟩); (case hg => rfl); (case hall => rfl); (case hdb => decide); (case he => rfl); (case hpl => rfl))
  | ((with_reducible refine' s_callRK (Calls.k1 ‹_›) ‹Room _ _› ?hk ?hX ?k ?hg ?hall ?hks ?hdb ?he ?hpl); (case hks => rfl); (case hk => fail "zlev"); (case hX => exact ⟨rfl, rfl, rfl, rfl, rfl, rfl⟩); (case hg => rfl); (case hall => rfl); (case hdb => decide); (case he => rfl); (case hpl => rfl))
  | ((with_reducible refine' s_callRK (Calls.ko ‹_›) ‹Room _ _› ?hk ?hX ?k ?hg ?hall ?hks ?hdb ?he ?hpl); (case hks => rfl); (case hk => fail "zlev"); (case hX => exact ⟨rfl, rfl, rfl, rfl, rfl, rfl⟩); (case hg => rfl); (case hall => rfl); (case hdb => decide); (case he => rfl); (case hpl => rfl))
  | ((with_reducible refine' s_callRK0 (Calls.k2 ‹_›) ‹Room _ _› ?hk ?hX ?k ?hg ?hall ?hks ?hdb ?hpl); (case hks => rfl); (case hk => fail "zlev"); (case hX => exact ⟨rfl, rfl, rfl, rfl, rfl, rfl⟩); (case hg => rfl); (case hall => rfl); (case hdb => decide); (case hpl => rfl))
  | ((with_reducible refine' s_callRK0 (Calls.k1 ‹_›) ‹Room _ _› ?hk ?hX ?k ?hg ?hall ?hks ?hdb ?hpl); (case hks => rfl); (case hk => fail "zlev"); (case hX => exact ⟨rfl, rfl, rfl, rfl, rfl, rfl⟩); (case hg => rfl); (case hall => rfl); (case hdb => decide); (case hpl => rfl))
  | ((with_reducible refine' s_callRK0 (Calls.ko ‹_›) ‹Room _ _› ?hk ?hX ?k ?hg ?hall ?hks ?hdb ?hpl); (case hks => rfl); (case hk => fail "zlev"); (case hX => exact ⟨rfl, rfl, rfl, rfl, rfl, rfl⟩); (case hg => rfl); (case hall => rfl); (case hdb => decide); (case hpl => rfl))
  | ((with_reducible refine' s_callR (Calls.k0 ‹_›) ‹Room _ _› ?hk ?hX ?k ?hg ?hdb ?he ?hpl); (case hk => fail "zlev"); (case hX => exact ⟨rfl, rfl, rfl, rfl, rfl, rfl⟩); (case hg => rfl); (case hdb => decide); (case he => rfl); (case hpl => rfl))
  | ((with_reducible refine' s_callR0 (Calls.k0 ‹_›) ‹Room _ _› ?hk ?hX ?k ?hg ?hdb); (case hk => fail "zlev"); (case hX => exact ⟨rfl, rfl, rfl, rfl, rfl, rfl⟩); (case hg => rfl); (case hdb => decide)))
theorem ok_lthree {f CP CS CC CM CH : Addr} {fd : FuncData} (F : Fun K "_law_three" "_law_three" S__law_three f fd) (B : Blt mg) (c3 : Calls P w K mg base "three" 3 CP CS CC CM CH) : FnOk P w K mg base (L2N.CX P w) 7 f fd ["m", "way", "first", "operation"] (spTW CP CS 3) := by
  have S := nk__law_three
  refine F.okN sc__law_three (fun vs H Q E h => ?_) (fun cdv A outer s H vs Q E hr h => ?_)
  · obtain ⟨p, way, f', op, ms, rfl, _⟩ := h; rfl
  · obtain ⟨p, way, fs, op, ms, rfl, hp, ok, all, w0, w4, hf, ho, c1, c2, hQ⟩ := h
    rcases ms with _ | ⟨m0, _ | ⟨m1, _ | ⟨m2, _ | ⟨m3, ms⟩⟩⟩⟩
    case cons.cons.cons.cons => exfalso; unfold okN at ok; simp only [List.length_cons] at ok; omega
    case cons.cons.nil => exfalso; unfold okN at ok; simp only [List.length_cons, List.length_nil] at ok; omega
    all_goals
      simp only [List.map_cons, List.map_nil] at hp
      show ZSs _ _ _ _ _ _ [some (.ref p), some (.int way), some (.str fs), some (.str op)] H
      fail "z0"
      all_goals try (exfalso; simp only [List.length_cons, List.length_nil] at *; omega)
      all_goals
        first
          | exact ⟨_, _, _, rfl, rfl, Nat.le_of_ble_eq_true rfl, .good ok all hf ho hQ⟩
          | (have e := c1 (.inl ‹_›); subst e; exact ⟨_, _, _, rfl, rfl, Nat.le_of_ble_eq_true rfl, .good ok all hf ho hQ⟩)
          | (have e := c2 (.inl ‹_›); subst e; exact ⟨_, _, _, rfl, rfl, Nat.le_of_ble_eq_true rfl, .good ok all hf ho hQ⟩)
          | (have e := c1 (.inr ‹_›); have e2 := c2 (.inr ‹_›); subst e; subst e2; exact ⟨_, _, _, rfl, rfl, Nat.le_of_ble_eq_true rfl, .good ok all hf ho hQ⟩)
theorem ok_lsix {f CP CS CC CM CH : Addr} {fd : FuncData} (F : Fun K "_law_six" "_law_six" S__law_six f fd) (B : Blt mg) (c3 : Calls P w K mg base "six" 6 CP CS CC CM CH) : FnOk P w K mg base (L2N.CX P w) 7 f fd ["m", "way", "first", "operation"] (spTW CP CS 6) := by
  have S := nk__law_six
  refine F.okN sc__law_six (fun vs H Q E h => ?_) (fun cdv A outer s H vs Q E hr h => ?_)
  · obtain ⟨p, way, f', op, ms, rfl, _⟩ := h; rfl
  · obtain ⟨p, way, fs, op, ms, rfl, hp, ok, all, w0, w4, hf, ho, c1, c2, hQ⟩ := h
    rcases ms with _ | ⟨m0, _ | ⟨m1, _ | ⟨m2, _ | ⟨m3, _ | ⟨m4, _ | ⟨m5, _ | ⟨m6, ms⟩⟩⟩⟩⟩⟩⟩
    case cons.cons.cons.cons.cons.cons.cons => exfalso; unfold okN at ok; simp only [List.length_cons, List.length_nil] at ok; omega
    case cons.cons.cons.cons.cons.nil => exfalso; unfold okN at ok; simp only [List.length_cons, List.length_nil] at ok; omega
    case cons.cons.cons.cons.nil => exfalso; unfold okN at ok; simp only [List.length_cons, List.length_nil] at ok; omega
    case cons.cons.cons.nil => exfalso; unfold okN at ok; simp only [List.length_cons, List.length_nil] at ok; omega
    case cons.cons.nil => exfalso; unfold okN at ok; simp only [List.length_cons, List.length_nil] at ok; omega
    all_goals
      simp only [List.map_cons, List.map_nil] at hp
      show ZSs _ _ _ _ _ _ [some (.ref p), some (.int way), some (.str fs), some (.str op)] H
      fail "z0"
      all_goals try (exfalso; simp only [List.length_cons, List.length_nil] at *; omega)
      all_goals
        first
          | exact ⟨_, _, _, rfl, rfl, Nat.le_of_ble_eq_true rfl, .good ok all hf ho hQ⟩
          | (have e := c1 (.inl ‹_›); subst e; exact ⟨_, _, _, rfl, rfl, Nat.le_of_ble_eq_true rfl, .good ok all hf ho hQ⟩)
          | (have e := c2 (.inl ‹_›); subst e; exact ⟨_, _, _, rfl, rfl, Nat.le_of_ble_eq_true rfl, .good ok all hf ho hQ⟩)
          | (have e := c1 (.inr ‹_›); have e2 := c2 (.inr ‹_›); subst e; subst e2; exact ⟨_, _, _, rfl, rfl, Nat.le_of_ble_eq_true rfl, .good ok all hf ho hQ⟩)
end
/-! the cases -/
theorem ix_two {X : Cx} {σ : L2.St} {H : Hp} {Q : VK} {a : Addr} {x y : Str} {v : Int} (h : H a = some (.lst [.str x, .str y])) (h0 : 0 ≤ v) (h9 : v < 2) (k : ∀ z, (z = x ∨ z = y) → Q (.str z) H) : IxW X σ (.ref a) (.int v) H Q := by
  obtain ⟨n, rfl, hn⟩ := ix_nat (n := 2) h0 (by omega)
  match n, hn with
  | 0, _ => exact xw_lst (SqL.of h) rfl (k x (.inl rfl))
  | 1, _ => exact xw_lst (SqL.of h) rfl (k y (.inr rfl))
theorem ix_three {X : Cx} {σ : L2.St} {H : Hp} {Q : VK} {a : Addr} {x y z : Int} {v : Int} (h : H a = some (.lst [.int x, .int y, .int z])) (h0 : 0 ≤ v) (h9 : v < 3) (k : ∀ n, (n = x ∨ n = y ∨ n = z) → Q (.int n) H) : IxW X σ (.ref a) (.int v) H Q := by
  obtain ⟨n, rfl, hn⟩ := ix_nat (n := 3) h0 (by omega)
  match n, hn with
  | 0, _ => exact xw_lst (SqL.of h) rfl (k x (.inl rfl))
  | 1, _ => exact xw_lst (SqL.of h) rfl (k y (.inr (.inl rfl)))
  | 2, _ => exact xw_lst (SqL.of h) rfl (k z (.inr (.inr rfl)))
structure CaseF (H : Hp) (q a : Addr) : Prop where
  ex : ∃ (kind f op : Str) (way : Int) (ms : List Str), H q = some (.lst [.str kind, .int way, .str f, .str op, .ref a]) ∧ H a = some (.lst (ms.map V.str)) ∧ okN ms (kN kind) ∧ (∀ m ∈ ms, m ∈ modes) ∧ 0 ≤ way ∧ way < 4 ∧ (f = "a" ∨ f = "b") ∧ (op = "+" ∨ op = "-") ∧ ((way = 1 ∨ way = 3) → op = "+") ∧ ((way = 2 ∨ way = 3) → f = "a")
theorem CaseF.same {H H' : Hp} {q a : Addr} (h : CaseF H q a) (s : Same H H') : CaseF H' q a := by
  obtain ⟨kind, f, op, way, ms, h1, h2, r⟩ := h
  exact ⟨kind, f, op, way, ms, s _ _ h1, s _ _ h2, r⟩
def spCase : Sp := fun vs H Q _ => ∃ s, vs = [.ref s] ∧ Src H s ∧ ∀ q a H', Same H H' → NoA H a → CaseF H' q a → Q (.ref q) H'
theorem case_do {s : Addr} {H : Hp} {Q : VK} {E : XK} (h : Src H s) (k : ∀ q a H', Same H H' → NoA H a → CaseF H' q a → Q (.ref q) H') : spCase [.ref s] H Q E := ⟨s, rfl, h, k⟩
section
local macro_rules | `(tactic| fail "z") => `(tactic| ((with_reducible refine' ix_two ?ea ?l0 ?l9 (fun _ _ => ?k)); (case ea => fail "zh"); (case l0 => assumption); (case l9 => assumption)))
local macro_rules | `(tactic| fail "z") => `(tactic| ((with_reducible refine' ix_three ?ea ?l0 ?l9 (fun _ _ => ?k)); (case ea => fail "zh"); (case l0 => assumption); (case l9 => assumption)))
theorem ok_case {f : Addr} {fd : FuncData} (F : Fun K "_law_case" "_law_case" S__law_case f fd) (B : Blt mg) (cD : Cal P w K mg base 1 "_law_draw" spDraw) (cM : Cal P w K mg base 2 "_law_mode" spMode) (cR : Cal P w K mg base 1 "_law_rows" (spRows K)) : FnOk P w K mg base (L2N.CX P w) 3 f fd ["source"] spCase := by
  have S := nk__law_case
  refine F.okN sc__law_case (fun vs H Q E h => ?_) (fun cdv A outer s H vs Q E hr h => ?_)
  · obtain ⟨p, rfl, _⟩ := h; rfl
  · obtain ⟨p, rfl, hsrc, hQ⟩ := h
    show ZSs _ _ _ _ _ _ [some (.ref p), none, none, none, none, none, none, none, none] H
    refine zss_cut (fun σ1 H1 => ∃ kind, σ1 = [some (.ref p), some (.str kind), none, none, none, none, none, none, none] ∧ Same H H1) (fun nx hnx => ?_) ?_
    · fail "za"
      exact hnx _ _ ⟨_, rfl, by fail "zsm"⟩
    rintro _ H1 ⟨kind, rfl, s1⟩
    have hs1 := hsrc.same s1
    refine zss_cut (fun σ1 H2 => ∃ way : Int, σ1 = [some (.ref p), some (.str kind), some (.int way), none, none, none, none, none, none] ∧ Same H1 H2 ∧ 0 ≤ way ∧ way < 4) (fun nx hnx => ?_) ?_
    · fail "za"
      exact hnx _ _ ⟨_, rfl, by fail "zsm", by assumption, by assumption⟩
    rintro _ H2 ⟨way, rfl, s2, w0, w4⟩
    have hs2 := hs1.same s2
    refine zss_cut (fun σ1 H3 => ∃ fs, σ1 = [some (.ref p), some (.str kind), some (.int way), some (.str fs), none, none, none, none, none] ∧ Same H2 H3 ∧ (fs = "a" ∨ fs = "b")) (fun nx hnx => ?_) ?_
    · fail "za"
      exact hnx _ _ ⟨_, rfl, by fail "zsm", by assumption⟩
    rintro _ H3 ⟨fs, rfl, s3, hf⟩
    have hs3 := hs2.same s3
    refine zss_cut (fun σ1 H4 => ∃ op, σ1 = [some (.ref p), some (.str kind), some (.int way), some (.str fs), some (.str op), none, none, none, none] ∧ Same H3 H4 ∧ (op = "+" ∨ op = "-")) (fun nx hnx => ?_) ?_
    · fail "za"
      exact hnx _ _ ⟨_, rfl, by fail "zsm", by assumption⟩
    rintro _ H4 ⟨op, rfl, s4, ho⟩
    have hs4 := hs3.same s4
    refine zss_cut (fun σ1 H5 => ∃ op, σ1 = [some (.ref p), some (.str kind), some (.int way), some (.str fs), some (.str op), none, none, none, none] ∧ H4 = H5 ∧ (op = "+" ∨ op = "-") ∧ ((way = 1 ∨ way = 3) → op = "+")) (fun nx hnx => ?_) ?_
    · fail "za"
      · exact hnx _ _ ⟨"+", rfl, rfl, .inl rfl, fun _ => rfl⟩
      · exact hnx _ _ ⟨"+", rfl, rfl, .inl rfl, fun _ => rfl⟩
      · exact hnx _ _ ⟨op, rfl, rfl, ho, fun z => by omega⟩
    clear ho
    rintro _ _ ⟨op, rfl, rfl, ho, c1⟩
    refine zss_cut (fun σ1 H5 => ∃ fs, σ1 = [some (.ref p), some (.str kind), some (.int way), some (.str fs), some (.str op), none, none, none, none] ∧ H4 = H5 ∧ (fs = "a" ∨ fs = "b") ∧ ((way = 2 ∨ way = 3) → fs = "a")) (fun nx hnx => ?_) ?_
    · fail "za"
      · exact hnx _ _ ⟨"a", rfl, rfl, .inl rfl, fun _ => rfl⟩
      · exact hnx _ _ ⟨"a", rfl, rfl, .inl rfl, fun _ => rfl⟩
      · exact hnx _ _ ⟨fs, rfl, rfl, hf, fun z => by omega⟩
    clear hf
    rintro _ _ ⟨fs, rfl, rfl, hf, c2⟩
    refine zss_cut (fun σ1 H5 => ∃ rw_, σ1 = [some (.ref p), some (.str kind), some (.int way), some (.str fs), some (.str op), some (.ref rw_), none, none, none] ∧ Same H4 H5 ∧ RwL K H5 rw_ (rowsN (kN kind) op fs)) (fun nx hnx => ?_) ?_
    · fail "za"
      refine rows_do fun q H5 s5 n5 h5 => ?_
      fail "za"
      exact hnx _ _ ⟨q, rfl, s5, h5⟩
    rintro _ H5 ⟨rw_, rfl, s5, ts, hrw, hts⟩
    have hs5 := hs4.same s5
    have tl : ts.length = kN kind := by rw [hts.1, rowsN_len (kN_ok kind)]
    have k36 := kN_ok kind
    refine zss_cut (fun σ1 H6 => ∃ n : Nat, σ1 = [some (.ref p), some (.str kind), some (.int way), some (.str fs), some (.str op), some (.ref rw_), some (.int n), none, none] ∧ Same H5 H6 ∧ (n = 0 ∨ n = 1 ∨ n = kN kind)) (fun nx hnx => ?_) ?_
    · fail "za"
      rename_i l nl v v0 v3 x hx
      rw [List.length_map, tl] at hx
      obtain ⟨m, rfl⟩ : ∃ m : Nat, x = m := ⟨x.toNat, by omega⟩
      exact hnx _ _ ⟨m, rfl, .new (.refl _) nl.e, by omega⟩
    rintro _ H6 ⟨n, rfl, s6, hn⟩
    have hs6 := hs5.same s6
    have n6 : n ≤ 6 := by omega
    have s16 := ((((s1.trans s2).trans s3).trans s4).trans s5).trans s6
    refine zss_cut (fun σ1 H7 => ∃ (D : Addr) (ms : List Str), σ1 = [some (.ref p), some (.str kind), some (.int way), some (.str fs), some (.str op), some (.ref rw_), some (.int n), some (.ref D), none] ∧ NoA H6 D ∧ Same H6 H7 ∧ H7 D = some (.lst (ms.map V.str)) ∧ ms.length = n ∧ ∀ m ∈ ms, m ∈ modes) (fun nx hnx => ?_) ?_
    · refine zs_lcR (i := 7) (own := [("k", 8)]) rfl sc__law_case.nd rfl rfl (sw_true rfl rfl rfl (by decide +kernel)) (blkOk_by (show blkC N__law_case (defScope S__law_case) _ _ = true by decide +kernel)) B.range ?_
      fail "za"
      refine ⟨by omega, by omega, fun D nD => ⟨fun i H' => Same H6 H' ∧ ∃ ms : List Str, H' D = some (.lst (ms.map V.str)) ∧ ms.length = i ∧ ∀ m ∈ ms, m ∈ modes, ⟨.put (.refl _) nD.e, [], upd_same, rfl, fun m h => by cases h⟩, ?_, ?_⟩⟩
      · rintro i H' hi ⟨s7, ms, hD, hm, hall⟩
        have hs7 := hs6.same s7
        have hi : i < n := by simpa using hi
        refine fun s8 H8 C1 cl fp => ?_
        show ZG _ _ _ [some (.ref p), some (.str kind), some (.int way), some (.str fs), some (.str op), some (.ref rw_), some (.int n), none, none] _ _
        fail "z"
        refine ⟨rfl, fun s8 H8 C1 cl fp => ?_⟩
        fail "za"
        rename_i m H9 hmm s9
        refine ⟨_, s9 _ _ hD, by rw [List.length_map, sizeLine_eq]; omega, .put (s7.trans s9) nD.e, ms ++ [m], by rw [upd_same, List.map_append]; rfl, by simp [hm], fun x hx => ?_⟩
        rcases List.mem_append.mp hx with z | z
        · exact hall x z
        · obtain rfl : x = m := by simpa using z
          exact hmm
      · rintro H' ⟨s7, ms, hD, hm, hall⟩
        exact hnx _ _ ⟨D, ms, rfl, nD, s7, hD, by simpa using hm, hall⟩
    rintro _ H7 ⟨D, ms, rfl, nD, s7, hD, hm, hall⟩
    fail "z0"
    rename_i q nq
    exact hQ q D _ (s16.trans (.new s7 nq.e)) (nD.up s16) ⟨kind, fs, op, way, ms, upd_same, by fail "zh", by unfold okN; omega, hall, w0, w4, hf, ho, c1, c2⟩
end
/-! one case -/
def spRt : Sp := fun vs H Q _ => ∃ (c a : Addr), vs = [.ref c] ∧ CaseF H c a ∧ ∀ H', Same H H' → Q (.bl true) H'
theorem rt_do {c a : Addr} {H : Hp} {Q : VK} {E : XK} (h1 : CaseF H c a) (k : ∀ H', Same H H' → Q (.bl true) H') : spRt [.ref c] H Q E := ⟨c, a, rfl, h1, k⟩
theorem ok_law {f : Addr} {fd : FuncData} (F : Fun K "law" "law" S_law f fd) (B : Blt mg) (cS : Cal P w K mg base 1 "_law_source" (spSrc K)) (cC : Cal P w K mg base 3 "_law_case" spCase) (cR : Cal P w K mg base 8 "_law_right" spRt) : FnOk P w K mg base (L2N.CX P w) 9 f fd ["script"] (spLaw K) := by
  have S := nk_law
  refine F.okN sc_law (fun vs H Q E h => ?_) (fun cdv A outer s H vs Q E hr h => ?_)
  · obtain ⟨a, ns, rfl, _⟩ := h; rfl
  · obtain ⟨a, ns, rfl, hs, hl, hQ⟩ := h
    show ZSs _ _ _ _ _ _ [some (.ref a), none, none, none] H
    refine zss_cut (fun σ1 H1 => ∃ (src : Addr), σ1 = [some (.ref a), some (.ref src), none, none] ∧ Src H1 src) (fun nx hnx => ?_) ?_
    · fail "za"
      refine src_do hs (by omega) (fun src H1 nsrc s1 hsrc => ?_)
      fail "za"
      exact hnx _ _ ⟨_, rfl, hsrc⟩
    rintro _ H1 ⟨src, rfl, hsrc⟩
    refine zss_cut (fun σ1 H2 => ∃ (D : Addr) (qs : List Addr), σ1 = [some (.ref a), some (.ref src), some (.ref D), none] ∧ H2 D = some (.lst (qs.map V.ref)) ∧ qs.length = 4 ∧ ∀ q ∈ qs, ∃ a, CaseF H2 q a) (fun nx hnx => ?_) ?_
    · refine zs_lcR (i := 2) (own := [("k", 3)]) rfl sc_law.nd rfl rfl (sw_true rfl rfl rfl (by decide +kernel)) (blkOk_by (show blkC N_law (defScope S_law) _ _ = true by decide +kernel)) B.range ?_
      fail "za"
      refine ⟨by omega, by omega, fun D nD => ⟨fun i H' => i ≤ 4 ∧ Same H1 H' ∧ ∃ qs : List Addr, H' D = some (.lst (qs.map V.ref)) ∧ qs.length = i ∧ ∀ q ∈ qs, ∃ a, a ≠ D ∧ CaseF H' q a, ⟨Nat.zero_le _, .put (.refl _) nD.e, [], upd_same, rfl, fun m h => by cases h⟩, ?_, ?_⟩⟩
      · rintro i H' hi ⟨_, s7, qs, hD, hm, hall⟩
        have hi : i < 4 := hi
        have hs7 := hsrc.same s7
        refine fun s8 H8 C1 cl fp => ?_
        show ZG _ _ _ [some (.ref a), some (.ref src), none, none] _ _
        fail "z"
        refine ⟨rfl, fun s8 H8 C1 cl fp => ?_⟩
        fail "za"
        refine case_do hs7 fun q b H9 s9 nb cf => ?_
        have nbD : b ≠ D := fun e => by rw [e] at nb; rw [nb.e] at hD; cases hD
        have up : ∀ {x b : Addr} {ys : List V}, b ≠ D → CaseF H9 x b → CaseF (upd H9 D (.lst (qs.map V.ref ++ ys))) x b := fun {x b ys} nb h => by
          obtain ⟨kind, f, op, way, ms, h1, h2, r⟩ := h
          have nx : x ≠ D := fun e => by
            rw [e, s9 _ _ hD] at h1
            injection h1 with h1; injection h1 with h1
            cases qs with
            | nil => cases h1
            | cons z zs => simp at h1
          exact ⟨kind, f, op, way, ms, by rw [upd_ne nx]; exact h1, by rw [upd_ne nb]; exact h2, r⟩
        fail "za"
        refine ⟨_, s9 _ _ hD, by rw [List.length_map, sizeLine_eq]; omega, hi, .put (s7.trans s9) nD.e, qs ++ [q], by rw [upd_same, List.map_append]; rfl, by simp [hm], fun x hx => ?_⟩
        rcases List.mem_append.mp hx with z | z
        · obtain ⟨b', n1, n2⟩ := hall x z
          exact ⟨b', n1, up n1 (n2.same s9)⟩
        · obtain rfl : x = q := by simpa using z
          exact ⟨b, nbD, up nbD cf⟩
      · rintro H' ⟨_, s7, qs, hD, hm, hall⟩
        exact hnx _ _ ⟨D, qs, rfl, hD, hm, fun q hq => by obtain ⟨a, _, c⟩ := hall q hq; exact ⟨a, c⟩⟩
    rintro _ H2 ⟨D, qs, rfl, hD, hm, hall⟩
    refine zss_cons ?_
    refine zs_forL pass_def rfl ?_
    fail "za"
    rename_i L nL
    have sL : Same H2 (upd H2 L (.lst [.int 0, .int 1, .int 2, .int 3, .int 1, .int 0])) := .new (.refl _) nL.e
    refine ⟨L, _, rfl, SqL.of upd_same, fun i σ H' => (∃ o, σ = [some (.ref a), some (.ref src), some (.ref D), o]) ∧ Same (upd H2 L (.lst [.int 0, .int 1, .int 2, .int 3, .int 1, .int 0])) H', ⟨⟨_, rfl⟩, .refl _⟩, ?_, ?_, ?_⟩
    · rintro i σ H' _ ⟨_, s3⟩
      exact SqL.of (s3 _ _ upd_same)
    · rintro i y σ H' hy ⟨⟨o, rfl⟩, s3⟩
      have s4 := sL.trans s3
      obtain ⟨k, rfl, hk⟩ : ∃ k : Nat, y = .int k ∧ k < 4 := by
        match i, hy with
        | 0, hy => exact ⟨0, (Option.some.inj hy).symm, by decide⟩
        | 1, hy => exact ⟨1, (Option.some.inj hy).symm, by decide⟩
        | 2, hy => exact ⟨2, (Option.some.inj hy).symm, by decide⟩
        | 3, hy => exact ⟨3, (Option.some.inj hy).symm, by decide⟩
        | 4, hy => exact ⟨1, (Option.some.inj hy).symm, by decide⟩
        | 5, hy => exact ⟨0, (Option.some.inj hy).symm, by decide⟩
        | i + 6, hy => simp at hy
      obtain ⟨q, hq⟩ : ∃ q, qs[k]? = some q := ⟨_, List.getElem?_eq_getElem (by omega)⟩
      obtain ⟨b, cf⟩ := hall q (List.mem_of_getElem? hq)
      fail "za"
      refine xw_lstN rfl (SqL.of (s4 _ _ hD)) (show (qs.map V.ref)[k]? = some (.ref q) by rw [List.getElem?_map, hq]; rfl) ?_
      fail "za"
      refine rt_do (cf.same s4) fun H5 s5 => ?_
      fail "za"
      exact ⟨⟨_, rfl⟩, s3.trans s5⟩
    · rintro σ H' ⟨⟨o, rfl⟩, s3⟩
      fail "za"
      exact hQ _
theorem spread_single {ms : List Str} {n : Nat} {m : Str} (h : ms = [m]) : spreadL ms n = List.replicate n m := by subst h; rfl
theorem spread_nil {ms : List Str} {n : Nat} (h : ms = []) : spreadL ms n = List.replicate n ("nearest-even" : Str) := by subst h; rfl
theorem spread_two {ms : List Str} {n : Nat} (h0 : ms.length ≠ 0) (h1 : ms.length ≠ 1) : spreadL ms n = ms := by
  match ms, h0, h1 with
  | [], h0, _ => exact absurd rfl h0
  | [m], _, h1 => exact absurd rfl h1
  | _ :: _ :: _, _, _ => rfl
section
local macro_rules | `(tactic| fail "z") => `(tactic| ((with_reducible show CallW _ (.builtin "len") _ _ _); (with_reducible refine' cw_lenO ?cm ‹Room _ _› ?hk ?hX ?ea ?k); (case ea => fail "zh"); (case cm => (with_reducible assumption)); (case hk => fail "zlev"); (case hX => exact ⟨rfl, rfl, rfl, rfl, rfl, rfl⟩)))
local macro_rules | `(tactic| fail "zx") => `(tactic| (refine' xw_lst (SqL.of ?q1) (atI_nat ?q2) ?_; (case q1 => fail "zh"); (case q2 => assumption)))
local macro_rules | `(tactic| fail "zx") => `(tactic| (refine' xw_tup ?q1 ?q2 ?_; (case q1 => assumption); (case q2 => rfl)))
theorem ok_rt {f CP CS : Addr} {fd : FuncData} (F : Fun K "_law_right" "_law_right" S__law_right f fd) (B : Blt mg) (TP : PrTxt K mg CP) (TS : StTxt K mg CS) (it : ItOwn P w K mg base 1 CP "steps") (ln : CalM P w K mg base 1 CP "__len__" (spPLen CP CS)) (eP : CalM P w K mg base 3 CP "__eq__" (spPEq K CP CS)) (cR : Cal P w K mg base 1 "_law_rows" (spRows K)) (c3 : Cal P w K mg base 7 "_law_three" (spTW CP CS 3)) (c6 : Cal P w K mg base 7 "_law_six" (spTW CP CS 6)) (cP : Cal P w K mg base 6 "_law_program" (spProg K CP CS)) (cE : Cal P w K mg base 3 "_law_equal" (spDq K 2)) : FnOk P w K mg base (L2N.CX P w) 8 f fd ["case"] spRt := by
  have S := nk__law_right
  obtain ⟨I, g, no, nl, nr, nm⟩ := TS
  have cl := I.cl
  obtain ⟨IP, gP, _, _⟩ := TP
  refine F.okN sc__law_right (fun vs H Q E h => ?_) (fun cdv A outer s H vs Q E hr h => ?_)
  · obtain ⟨c, a, rfl, _⟩ := h; rfl
  · obtain ⟨c, a, rfl, ⟨kind, fs, op, way, ms, hc, ha, ok, all, w0, w4, hf, ho, c1, c2⟩, hQ⟩ := h
    have k36 := kN_ok kind
    have hml : ms.length ≤ 6 := by unfold okN at ok; omega
    have hlen : ((ms.map V.str).length : Int) = ms.length := by rw [List.length_map]
    show ZSs _ _ _ _ _ _ [some (.ref c), none, none, none, none, none, none, none, none, none, none, none, none] H
    refine zss_cut (fun σ1 H1 => σ1 = [some (.ref c), some (.str kind), some (.int way), some (.str fs), some (.str op), some (.ref a), none, none, none, none, none, none, none] ∧ H = H1) (fun nx hnx => ?_) ?_
    · fail "za"
      exact hnx _ _ ⟨rfl, rfl⟩
    rintro _ _ ⟨rfl, rfl⟩
    refine zss_cut (fun σ1 H1 => ∃ rw_, σ1 = [some (.ref c), some (.str kind), some (.int way), some (.str fs), some (.str op), some (.ref a), some (.ref rw_), none, none, none, none, none, none] ∧ Same H H1 ∧ RwL K H1 rw_ (rowsN (kN kind) op fs)) (fun nx hnx => ?_) ?_
    · fail "za"
      refine rows_do fun q H1 s1 n1 h1 => ?_
      fail "za"
      exact hnx _ _ ⟨q, rfl, s1, h1⟩
    rintro _ H1 ⟨rw_, rfl, s1, hrl⟩
    obtain ⟨ts, hrw, hts⟩ := id hrl
    have tl : ts.length = kN kind := by rw [hts.1, rowsN_len k36]
    have ha1 := s1 _ _ ha
    refine zss_cut (fun σ1 H2 => ∃ e, σ1 = [some (.ref c), some (.str kind), some (.int way), some (.str fs), some (.str op), some (.ref a), some (.ref rw_), some (.ref e), none, none, none, none, none] ∧ NoA H1 e ∧ H2 = upd H1 e (.lst (ms.map V.str))) (fun nx hnx => ?_) ?_
    · fail "za"
      rename_i e ne
      exact hnx _ _ ⟨e, rfl, ne, rfl⟩
    rintro _ _ ⟨e, rfl, ne, rfl⟩
    have s2 : Same H1 (upd H1 e (.lst (ms.map V.str))) := .new (.refl _) ne.e
    have he2 : upd H1 e (.lst (ms.map V.str)) e = some (.lst (ms.map V.str)) := upd_same
    generalize upd H1 e (.lst (ms.map V.str)) = H2 at *
    refine zss_cut (fun σ1 H3 => ∃ e ro, σ1 = [some (.ref c), some (.str kind), some (.int way), some (.str fs), some (.str op), some (.ref a), some (.ref rw_), some (.ref e), none, none, ro, none, none] ∧ Same H2 H3 ∧ (ms.length = 0 → H3 e = some (.lst ((spreadL ms (kN kind)).map V.str))) ∧ (ms.length ≠ 0 → H3 e = some (.lst (ms.map V.str)))) (fun nx hnx => ?_) ?_
    · have ha2 := s2 _ _ ha1
      have hrw2 := s2 _ _ hrw
      fail "za"
      · refine ze_lcL (own := [("row", 10)]) rfl sc__law_right.nd (blkOk_by (show blkC N__law_right (defScope S__law_right) _ _ = true by decide +kernel)) ?_
        fail "z"
        refine ⟨rw_, _, rfl, SqL.of hrw2, fun D nD => ⟨fun i H' => Same H2 H' ∧ H' D = some (.lst (List.replicate i (V.str "nearest-even"))), ⟨.put (.refl _) nD, upd_same⟩, ?_, ?_, ?_⟩⟩
        · rintro i H' _ ⟨s3, _⟩
          exact SqL.of (s3 _ _ hrw2)
        · rintro i x H' hx ⟨s3, hD⟩
          have hi : i < ts.length := by have := (List.getElem?_eq_some_iff.mp hx).1; simpa using this
          refine fun s5 H5 C1 cl1 fp => ?_
          show ZG _ _ _ [some (.ref c), some (.str kind), some (.int way), some (.str fs), some (.str op), some (.ref a), some (.ref rw_), some (.ref e), none, none, none, none, none] _ _
          fail "z"
          refine ⟨rfl, fun s6 H6 C2 cl2 fp2 => ?_⟩
          fail "za"
          exact ⟨_, hD, by rw [List.length_replicate, sizeLine_eq]; omega, .put s3 nD, by rw [upd_same, List.replicate_succ']⟩
        · rintro H' ⟨s3, hD⟩
          refine ⟨_, _, by fail "sat", by decide, hnx _ _ ⟨D, _, rfl, s3, fun z => ?_, fun z => absurd (by omega) z⟩⟩
          rw [hD, spread_nil (List.eq_nil_of_length_eq_zero z), List.map_replicate, List.length_map, tl]
      · exact hnx _ _ ⟨e, _, rfl, .refl _, fun z => absurd z (by omega), fun _ => he2⟩
    rintro _ H3 ⟨e, ro, rfl, s3, e0, e1⟩
    refine zss_cut (fun σ1 H4 => ∃ e ro, σ1 = [some (.ref c), some (.str kind), some (.int way), some (.str fs), some (.str op), some (.ref a), some (.ref rw_), some (.ref e), none, none, ro, none, none] ∧ Same H3 H4 ∧ H4 e = some (.lst ((spreadL ms (kN kind)).map V.str))) (fun nx hnx => ?_) ?_
    · have ha3 := s3 _ _ (s2 _ _ ha1)
      have hrw3 := s3 _ _ (s2 _ _ hrw)
      fail "za"
      · rename_i l1
        obtain ⟨m, rfl⟩ : ∃ m, ms = [m] := by
          match ms, l1 with
          | [m], _ => exact ⟨m, rfl⟩
          | [], h => simp at h
          | _ :: _ :: _, h => simp at h; omega
        refine ze_lcL (own := [("row", 10)]) rfl sc__law_right.nd (blkOk_by (show blkC N__law_right (defScope S__law_right) _ _ = true by decide +kernel)) ?_
        fail "z"
        refine ⟨rw_, _, rfl, SqL.of hrw3, fun D nD => ⟨fun i H' => Same H3 H' ∧ H' D = some (.lst (List.replicate i (V.str m))), ⟨.put (.refl _) nD, upd_same⟩, ?_, ?_, ?_⟩⟩
        · rintro i H' _ ⟨s4, _⟩
          exact SqL.of (s4 _ _ hrw3)
        · rintro i x H' hx ⟨s4, hD⟩
          have hi : i < ts.length := by have := (List.getElem?_eq_some_iff.mp hx).1; simpa using this
          have ha4 := s4 _ _ ha3
          have hm0 : ([m].map V.str)[0]? = some (V.str m) := rfl
          refine fun s5 H5 C1 cl1 fp => ?_
          show ZG _ _ _ [some (.ref c), some (.str kind), some (.int way), some (.str fs), some (.str op), some (.ref a), some (.ref rw_), some (.ref e), none, none, none, none, none] _ _
          fail "z"
          refine ⟨rfl, fun s6 H6 C2 cl2 fp2 => ?_⟩
          fail "za"
          exact ⟨_, hD, by rw [List.length_replicate, sizeLine_eq]; omega, .put s4 nD, by rw [upd_same, List.replicate_succ']⟩
        · rintro H' ⟨s4, hD⟩
          refine ⟨_, _, by fail "sat", by decide, hnx _ _ ⟨D, _, rfl, s4, ?_⟩⟩
          rw [hD, spread_single rfl, List.map_replicate, List.length_map, tl]
      · rename_i l1
        refine hnx _ _ ⟨e, _, rfl, .refl _, ?_⟩
        by_cases z : ms.length = 0
        · exact e0 z
        · rw [e1 z, spread_two z (by omega)]
    clear e0 e1
    rintro _ H4 ⟨e, ro, rfl, s4, he⟩
    have s14 := (s2.trans s3).trans s4
    have ha4 := s14 _ _ ha1
    refine zss_cut (fun σ1 H5 => ∃ p, σ1 = [some (.ref c), some (.str kind), some (.int way), some (.str fs), some (.str op), some (.ref a), some (.ref rw_), some (.ref e), some (.ref p), none, ro, none, none] ∧ Same H4 H5 ∧ PrF CP CS H5 p (stepsOf (rowsN (kN kind) op fs) (spreadL ms (kN kind)))) (fun nx hnx => ?_) ?_
    · fail "za"
      · rename_i hk
        have ek : (3 : Nat) = kN kind := by unfold kN; rw [if_pos hk]
        exact ⟨a, way, fs, op, ms, rfl, ha4, by rwa [ek], all, w0, w4, hf, ho, c1, c2, fun p H5 s5 np hp => ⟨_, _, by fail "sat", by decide, hnx _ _ ⟨p, rfl, s5, by rwa [← ek]⟩⟩⟩
      · rename_i hk
        have ek : (6 : Nat) = kN kind := by unfold kN; rw [if_neg hk]
        exact ⟨a, way, fs, op, ms, rfl, ha4, by rwa [ek], all, w0, w4, hf, ho, c1, c2, fun p H5 s5 np hp => ⟨_, _, by fail "sat", by decide, hnx _ _ ⟨p, rfl, s5, by rwa [← ek]⟩⟩⟩
    rintro _ H5 ⟨p, rfl, s5, hp⟩
    have s15 := s14.trans s5
    have hrw5 := s15 _ _ hrw
    have hts5 := hts.same s15
    have he5 := s5 _ _ he
    have sl : (stepsOf (rowsN (kN kind) op fs) (spreadL ms (kN kind))).length = kN kind := by rw [stepsOf.len (by rw [rowsN_len k36, spreadL_len ok]), rowsN_len k36]
    obtain ⟨SS, hSS⟩ : ∃ SS, SS = stepsOf (rowsN (kN kind) op fs) (spreadL ms (kN kind)) := ⟨_, rfl⟩
    rw [← hSS] at hp sl
    refine zss_cut (fun σ1 H6 => ∃ d, σ1 = [some (.ref c), some (.str kind), some (.int way), some (.str fs), some (.str op), some (.ref a), some (.ref rw_), some (.ref e), some (.ref p), some (.ref d), ro, none, none] ∧ Same H5 H6 ∧ TsL H6 d SS) (fun nx hnx => ?_) ?_
    · refine zs_lcR (i := 9) (own := [("k", 11)]) rfl sc__law_right.nd rfl rfl (sw_true rfl rfl rfl (by decide +kernel)) (blkOk_by (show blkC N__law_right (defScope S__law_right) _ _ = true by decide +kernel)) B.range ?_
      fail "za"
      have tlm : (ts.map V.ref).length ≤ 6 := by rw [List.length_map, tl]; omega
      refine ⟨by omega, by omega, fun D nD => ⟨fun i H' => Same H5 H' ∧ i ≤ kN kind ∧ ∃ us, H' D = some (.lst (us.map V.ref)) ∧ Tps H' us (SS.take i), ⟨.put (.refl _) nD.e, Nat.zero_le _, [], upd_same, Tps.nil⟩, ?_, ?_⟩⟩
      · rintro i H' hi ⟨s6, _, us, hD, hus⟩
        have hi' : i < kN kind := by rw [← tl]; simpa using hi
        obtain ⟨r, hr'⟩ : ∃ r, (rowsN (kN kind) op fs)[i]? = some r := ⟨_, List.getElem?_eq_getElem (by rw [rowsN_len k36]; exact hi')⟩
        obtain ⟨m, hm⟩ : ∃ m, (spreadL ms (kN kind))[i]? = some m := ⟨_, List.getElem?_eq_getElem (by rw [spreadL_len ok]; exact hi')⟩
        obtain ⟨t, ht, hrt⟩ := (hts5.same s6).get hr'
        unfold RwF at hrt
        have hrw6 := s6 _ _ hrw5
        have he6 := s6 _ _ he5
        have ht' : (ts.map V.ref)[i]? = some (.ref t) := by rw [List.getElem?_map, ht]; rfl
        have hm' : ((spreadL ms (kN kind)).map V.str)[i]? = some (.str m) := by rw [List.getElem?_map, hm]; rfl
        have hget := stepsOf.at hr' hm
        rw [← hSS] at hget
        refine fun s7 H7 C1 cl1 fp => ?_
        show ZG _ _ _ [some (.ref c), some (.str kind), some (.int way), some (.str fs), some (.str op), some (.ref a), some (.ref rw_), some (.ref e), some (.ref p), none, ro, none, none] _ _
        fail "z"
        refine ⟨rfl, fun s7 H7 C2 cl2 fp2 => ?_⟩
        fail "za"
        rename_i t2 nt2
        refine ⟨_, by fail "zh", ?_, .put (.new s6 nt2.e) nD.e, hi', us ++ [t2], by rw [upd_same, List.map_append]; rfl, ?_⟩
        · have := hus.1
          rw [List.length_map, sizeLine_eq, this, List.length_take, sl]
          omega
        · rw [List.take_add_one, hget]
          exact ((hus.same (.new (.refl _) nt2.e)).snoc (TpF.mk (a := r.op) (b := r.l) (c := r.r) (d := m) upd_same)).set (by fail "zh")
      · rintro H' ⟨s6, _, us, hD, hus⟩
        rw [Int.toNat_natCast, List.length_map, tl, List.take_of_length_le (by rw [sl]; exact Nat.le_refl _)] at hus
        exact hnx _ _ ⟨D, rfl, s6, us, hD, hus⟩
    rintro _ H6 ⟨d, rfl, s6, hd⟩
    obtain ⟨dx, l, qs, ep, el, hs⟩ := id (hp.same s6)
    have hrw6 := s6 _ _ hrw5
    have hpl := hp.same s6
    refine zss_cut (fun σ1 H7 => σ1 = [some (.ref c), some (.str kind), some (.int way), some (.str fs), some (.str op), some (.ref a), some (.ref rw_), some (.ref e), some (.ref p), some (.ref d), ro, none, none] ∧ H6 = H7) (fun nx hnx => ?_) ?_
    · fail "za"
      refine ⟨p, SS, rfl, hpl, SS.length, rfl, by omega, ?_⟩
      fail "za"
      · exfalso
        rename_i hne
        rw [sl, List.length_map, tl] at hne
        simp at hne
      · exact hnx _ _ ⟨rfl, rfl⟩
    rintro _ _ ⟨rfl, rfl⟩
    refine zss_cut (fun σ1 H7 => σ1 = [some (.ref c), some (.str kind), some (.int way), some (.str fs), some (.str op), some (.ref a), some (.ref rw_), some (.ref e), some (.ref p), some (.ref d), ro, none, none] ∧ Same H6 H7) (fun nx hnx => ?_) ?_
    · fail "za"
      refine ze_lcO (own := [("step", 12)]) it hr (by decide) ⟨rfl, rfl, rfl, rfl, rfl, rfl⟩ rfl sc__law_right.nd (blkOk_by (show blkC N__law_right (defScope S__law_right) _ _ = true by decide +kernel)) ?_
      fail "za"
      refine ⟨p, dx, l, _, qs.map V.ref, rfl, ep, rfl, SqL.of el, fun D nD => ⟨fun i H' => Same H6 H' ∧ i ≤ qs.length ∧ ∃ ts, H' D = some (.lst (ts.map V.ref)) ∧ Tps H' ts (SS.take i), ⟨.put (.refl _) nD, Nat.zero_le _, [], upd_same, Tps.nil⟩, ?_, ?_, ?_⟩⟩
      · rintro i H' _ ⟨s2, _⟩
        exact SqL.of (s2 _ _ el)
      · rintro i x H' hx ⟨s2, _, us, hD, ht⟩
        obtain ⟨q, hq, rfl⟩ := map_get hx
        have hi : i < qs.length := (List.getElem?_eq_some_iff.mp hq).1
        obtain ⟨s', hs'⟩ : ∃ s', SS[i]? = some s' := ⟨_, List.getElem?_eq_getElem (by rw [← hs.1]; exact hi)⟩
        obtain ⟨dq, hfl⟩ := (hs.2 i q s' hq hs').same s2
        unfold fsS at hfl
        refine fun s3 H3 C1 cl1 fp => ?_
        show ZG _ _ _ [some (.ref c), some (.str kind), some (.int way), some (.str fs), some (.str op), some (.ref a), some (.ref rw_), some (.ref e), some (.ref p), some (.ref d), ro, none, none] _ _
        fail "z"
        refine ⟨rfl, fun s4 H4 C2 cl2 fp2 => ?_⟩
        fail "za"
        rename_i t nt
        refine ⟨_, by fail "zh", ?_, ?_⟩
        · have := ht.1
          rw [List.length_map, sizeLine_eq, this, List.length_take, sl]
          omega
        · refine ⟨.put (.new s2 nt.e) nD, hi, us ++ [t], by rw [upd_same, List.map_append]; rfl, ?_⟩
          rw [List.take_add_one, hs']
          exact ((ht.same (.new (.refl _) nt.e)).snoc (TpF.mk (a := s'.op) (b := s'.l) (c := s'.r) (d := s'.m) upd_same)).set (by fail "zh")
      · rintro H' ⟨s2, _, us, hD, ht⟩
        rw [List.length_map, hs.1, List.take_length] at ht
        have hd2 := hd.same s2
        fail "za"
        refine equal_do (TsL.eq ⟨us, hD, ht⟩ hd2 (by rw [sl]; omega)) ?_
        fail "za"
        exact hnx _ _ ⟨rfl, s2⟩
    rintro _ H7 ⟨rfl, s7⟩
    have s17 := (s15.trans s6).trans s7
    have he7 := s7 _ _ (s6 _ _ he5)
    fail "z0"
    refine ⟨rw_, e, rowsN (kN kind) op fs, spreadL ms (kN kind), rfl, hrl.same s17, he7, by rw [rowsN_len k36, spreadL_len ok], by rw [rowsN_len k36]; omega, rowsN_ok .., spreadL_ok all, fun p2 H8 s8 n8 hp2 => ?_⟩
    have hp1' := (hpl.same s7).same s8
    obtain ⟨dy, l1, q1, e1, e2, e3⟩ := id hp1'
    obtain ⟨dz, l2, q2, g1, g2, g3⟩ := id hp2
    fail "za"
    refine ⟨p, .ref p2, SS, rfl, hp1', .inr ⟨p2, _, rfl, hp2, ?_⟩⟩
    rw [← hSS, decide_eq_true rfl]
    exact hQ _ ((s1.trans s17).trans s8)
end

theorem all_mk {w : World} {K : PySem.W.Frag} {h : Heap} {mg : Str → Option Value} {fa : Addr} (X : K.In h) (G : h.Ns mainGlobals mg) (hfa : mg "law" = some (.ref fa))
    {f_Step f_Program f_Step___init__ T_Step___init__ f_Step___eq__ f_Program___init__ f_Program___add__ f_Program___iter__ f_Program___eq__ f_Program___len__ f_check_mode f_invalid_part f_spread f_check_choices f_built f_three KD_three f_six KD_six f__law_source f__law_draw f__law_modes f__law_mode f__law_equal f__law_rows f__law_program f__law_three f__law_six f__law_case f__law_right f_law f_MODES f_THREE f_SIX t_THREE0 t_THREE0_0 t_THREE0_1 t_THREE0_2 t_THREE1 t_THREE1_0 t_THREE1_1 t_THREE1_2 t_THREE2 t_THREE2_0 t_THREE2_1 t_THREE2_2 t_THREE3 t_THREE3_0 t_THREE3_1 t_THREE3_2 t_SIX0 t_SIX0_0 t_SIX0_1 t_SIX0_2 t_SIX0_3 t_SIX0_4 t_SIX0_5 t_SIX1 t_SIX1_0 t_SIX1_1 t_SIX1_2 t_SIX1_3 t_SIX1_4 t_SIX1_5 t_SIX2 t_SIX2_0 t_SIX2_1 t_SIX2_2 t_SIX2_3 t_SIX2_4 t_SIX2_5 t_SIX3 t_SIX3_0 t_SIX3_1 t_SIX3_2 t_SIX3_3 t_SIX3_4 t_SIX3_5 f_BadCount i_BadCount N_BadCount cda_BadCount cc_BadCount f_BadMode i_BadMode N_BadMode cda_BadMode cc_BadMode f_BadChoice i_BadChoice N_BadChoice cda_BadChoice cc_BadChoice f_BadStep i_BadStep N_BadStep cda_BadStep cc_BadStep : Addr}
    {od_Step___init__ an_Step___init__ odT_Step___init__ od_Step___eq__ an_Step___eq__ od_Program___init__ an_Program___init__ od_Program___add__ an_Program___add__ od_Program___iter__ an_Program___iter__ od_Program___eq__ an_Program___eq__ od_Program___len__ an_Program___len__ od_check_mode an_check_mode od_invalid_part an_invalid_part od_spread an_spread od_check_choices an_check_choices od_built an_built od_three an_three od_six an_six od__law_source an__law_source od__law_draw an__law_draw od__law_modes an__law_modes od__law_mode an__law_mode od__law_equal an__law_equal od__law_rows an__law_rows od__law_program an__law_program od__law_three an__law_three od__law_six an__law_six od__law_case an__law_case od__law_right an__law_right od_law an_law dd_BadCount od_BadCount an_BadCount ccd_BadCount cld_BadCount dd_BadMode od_BadMode an_BadMode ccd_BadMode cld_BadMode dd_BadChoice od_BadChoice an_BadChoice ccd_BadChoice cld_BadChoice dd_BadStep od_BadStep an_BadStep ccd_BadStep cld_BadStep : Option Addr}
    {sl_Step___init__ slT_Step___init__ sl_Step___eq__ sl_Program___init__ sl_Program___add__ sl_Program___iter__ sl_Program___eq__ sl_Program___len__ sl_check_mode sl_invalid_part sl_spread sl_check_choices sl_built sl_three sl_six sl__law_source sl__law_draw sl__law_modes sl__law_mode sl__law_equal sl__law_rows sl__law_program sl__law_three sl__law_six sl__law_case sl__law_right sl_law sl_BadCount ccs_BadCount csl_BadCount sl_BadMode ccs_BadMode csl_BadMode sl_BadChoice ccs_BadChoice csl_BadChoice sl_BadStep ccs_BadStep csl_BadStep : Array (Option Value)}
    {mc_Program cu_Program_MOST oc_Step___init__ kV_Step___init__ dc_Step___init__ pm_Step___init__ cd_Step___init__ ct_Step___init__ ocT_Step___init__ oc_Step___eq__ kV_Step___eq__ dc_Step___eq__ pm_Step___eq__ cd_Step___eq__ ct_Step___eq__ oc_Program___init__ kV_Program___init__ dc_Program___init__ pm_Program___init__ cd_Program___init__ ct_Program___init__ oc_Program___add__ kV_Program___add__ dc_Program___add__ pm_Program___add__ cd_Program___add__ ct_Program___add__ oc_Program___iter__ kV_Program___iter__ dc_Program___iter__ pm_Program___iter__ cd_Program___iter__ ct_Program___iter__ oc_Program___eq__ kV_Program___eq__ dc_Program___eq__ pm_Program___eq__ cd_Program___eq__ ct_Program___eq__ oc_Program___len__ kV_Program___len__ dc_Program___len__ pm_Program___len__ cd_Program___len__ ct_Program___len__ oc_check_mode kV_check_mode dc_check_mode pm_check_mode cd_check_mode ct_check_mode oc_invalid_part kV_invalid_part dc_invalid_part pm_invalid_part cd_invalid_part ct_invalid_part oc_spread kV_spread dc_spread pm_spread cd_spread ct_spread oc_check_choices kV_check_choices dc_check_choices pm_check_choices cd_check_choices ct_check_choices oc_built kV_built dc_built pm_built cd_built ct_built oc_three dc_three pm_three cd_three ct_three ku0_three ku1_three oc_six dc_six pm_six cd_six ct_six ku0_six ku1_six oc__law_source kV__law_source dc__law_source pm__law_source cd__law_source ct__law_source oc__law_draw kV__law_draw dc__law_draw pm__law_draw cd__law_draw ct__law_draw oc__law_modes kV__law_modes dc__law_modes pm__law_modes cd__law_modes ct__law_modes oc__law_mode kV__law_mode dc__law_mode pm__law_mode cd__law_mode ct__law_mode oc__law_equal kV__law_equal dc__law_equal pm__law_equal cd__law_equal ct__law_equal oc__law_rows kV__law_rows dc__law_rows pm__law_rows cd__law_rows ct__law_rows oc__law_program kV__law_program dc__law_program pm__law_program cd__law_program ct__law_program oc__law_three kV__law_three dc__law_three pm__law_three cd__law_three ct__law_three oc__law_six kV__law_six dc__law_six pm__law_six cd__law_six ct__law_six oc__law_case kV__law_case dc__law_case pm__law_case cd__law_case ct__law_case oc__law_right kV__law_right dc__law_right pm__law_right cd__law_right ct__law_right oc_law kV_law dc_law pm_law cd_law ct_law oc_BadCount kV_BadCount dc_BadCount pm_BadCount ct_BadCount ccl_BadCount cl_BadCount oc_BadMode kV_BadMode dc_BadMode pm_BadMode ct_BadMode ccl_BadMode cl_BadMode oc_BadChoice kV_BadChoice dc_BadChoice pm_BadChoice ct_BadChoice ccl_BadChoice cl_BadChoice oc_BadStep kV_BadStep dc_BadStep pm_BadStep ct_BadStep ccl_BadStep cl_BadStep : Value}
    {itT_Step___init__ : Array Value}
    {nT_Step___init__ : Nat}
    {dd_MODES : Option Addr}
    {its_MODES : Array Value}
    {n_MODES : Nat}
    {sl_MODES : Array (Option Value)}
    {es_THREE : Array DictEntry}
    {n_THREE : Nat}
    {dd_THREE0 : Option Addr}
    {its_THREE0 : Array Value}
    {n_THREE0 : Nat}
    {sl_THREE0 : Array (Option Value)}
    {dd_THREE0_0 : Option Addr}
    {its_THREE0_0 : Array Value}
    {n_THREE0_0 : Nat}
    {sl_THREE0_0 : Array (Option Value)}
    {dd_THREE0_1 : Option Addr}
    {its_THREE0_1 : Array Value}
    {n_THREE0_1 : Nat}
    {sl_THREE0_1 : Array (Option Value)}
    {dd_THREE0_2 : Option Addr}
    {its_THREE0_2 : Array Value}
    {n_THREE0_2 : Nat}
    {sl_THREE0_2 : Array (Option Value)}
    {dd_THREE1 : Option Addr}
    {its_THREE1 : Array Value}
    {n_THREE1 : Nat}
    {sl_THREE1 : Array (Option Value)}
    {dd_THREE1_0 : Option Addr}
    {its_THREE1_0 : Array Value}
    {n_THREE1_0 : Nat}
    {sl_THREE1_0 : Array (Option Value)}
    {dd_THREE1_1 : Option Addr}
    {its_THREE1_1 : Array Value}
    {n_THREE1_1 : Nat}
    {sl_THREE1_1 : Array (Option Value)}
    {dd_THREE1_2 : Option Addr}
    {its_THREE1_2 : Array Value}
    {n_THREE1_2 : Nat}
    {sl_THREE1_2 : Array (Option Value)}
    {dd_THREE2 : Option Addr}
    {its_THREE2 : Array Value}
    {n_THREE2 : Nat}
    {sl_THREE2 : Array (Option Value)}
    {dd_THREE2_0 : Option Addr}
    {its_THREE2_0 : Array Value}
    {n_THREE2_0 : Nat}
    {sl_THREE2_0 : Array (Option Value)}
    {dd_THREE2_1 : Option Addr}
    {its_THREE2_1 : Array Value}
    {n_THREE2_1 : Nat}
    {sl_THREE2_1 : Array (Option Value)}
    {dd_THREE2_2 : Option Addr}
    {its_THREE2_2 : Array Value}
    {n_THREE2_2 : Nat}
    {sl_THREE2_2 : Array (Option Value)}
    {dd_THREE3 : Option Addr}
    {its_THREE3 : Array Value}
    {n_THREE3 : Nat}
    {sl_THREE3 : Array (Option Value)}
    {dd_THREE3_0 : Option Addr}
    {its_THREE3_0 : Array Value}
    {n_THREE3_0 : Nat}
    {sl_THREE3_0 : Array (Option Value)}
    {dd_THREE3_1 : Option Addr}
    {its_THREE3_1 : Array Value}
    {n_THREE3_1 : Nat}
    {sl_THREE3_1 : Array (Option Value)}
    {dd_THREE3_2 : Option Addr}
    {its_THREE3_2 : Array Value}
    {n_THREE3_2 : Nat}
    {sl_THREE3_2 : Array (Option Value)}
    {es_SIX : Array DictEntry}
    {n_SIX : Nat}
    {dd_SIX0 : Option Addr}
    {its_SIX0 : Array Value}
    {n_SIX0 : Nat}
    {sl_SIX0 : Array (Option Value)}
    {dd_SIX0_0 : Option Addr}
    {its_SIX0_0 : Array Value}
    {n_SIX0_0 : Nat}
    {sl_SIX0_0 : Array (Option Value)}
    {dd_SIX0_1 : Option Addr}
    {its_SIX0_1 : Array Value}
    {n_SIX0_1 : Nat}
    {sl_SIX0_1 : Array (Option Value)}
    {dd_SIX0_2 : Option Addr}
    {its_SIX0_2 : Array Value}
    {n_SIX0_2 : Nat}
    {sl_SIX0_2 : Array (Option Value)}
    {dd_SIX0_3 : Option Addr}
    {its_SIX0_3 : Array Value}
    {n_SIX0_3 : Nat}
    {sl_SIX0_3 : Array (Option Value)}
    {dd_SIX0_4 : Option Addr}
    {its_SIX0_4 : Array Value}
    {n_SIX0_4 : Nat}
    {sl_SIX0_4 : Array (Option Value)}
    {dd_SIX0_5 : Option Addr}
    {its_SIX0_5 : Array Value}
    {n_SIX0_5 : Nat}
    {sl_SIX0_5 : Array (Option Value)}
    {dd_SIX1 : Option Addr}
    {its_SIX1 : Array Value}
    {n_SIX1 : Nat}
    {sl_SIX1 : Array (Option Value)}
    {dd_SIX1_0 : Option Addr}
    {its_SIX1_0 : Array Value}
    {n_SIX1_0 : Nat}
    {sl_SIX1_0 : Array (Option Value)}
    {dd_SIX1_1 : Option Addr}
    {its_SIX1_1 : Array Value}
    {n_SIX1_1 : Nat}
    {sl_SIX1_1 : Array (Option Value)}
    {dd_SIX1_2 : Option Addr}
    {its_SIX1_2 : Array Value}
    {n_SIX1_2 : Nat}
    {sl_SIX1_2 : Array (Option Value)}
    {dd_SIX1_3 : Option Addr}
    {its_SIX1_3 : Array Value}
    {n_SIX1_3 : Nat}
    {sl_SIX1_3 : Array (Option Value)}
    {dd_SIX1_4 : Option Addr}
    {its_SIX1_4 : Array Value}
    {n_SIX1_4 : Nat}
    {sl_SIX1_4 : Array (Option Value)}
    {dd_SIX1_5 : Option Addr}
    {its_SIX1_5 : Array Value}
    {n_SIX1_5 : Nat}
    {sl_SIX1_5 : Array (Option Value)}
    {dd_SIX2 : Option Addr}
    {its_SIX2 : Array Value}
    {n_SIX2 : Nat}
    {sl_SIX2 : Array (Option Value)}
    {dd_SIX2_0 : Option Addr}
    {its_SIX2_0 : Array Value}
    {n_SIX2_0 : Nat}
    {sl_SIX2_0 : Array (Option Value)}
    {dd_SIX2_1 : Option Addr}
    {its_SIX2_1 : Array Value}
    {n_SIX2_1 : Nat}
    {sl_SIX2_1 : Array (Option Value)}
    {dd_SIX2_2 : Option Addr}
    {its_SIX2_2 : Array Value}
    {n_SIX2_2 : Nat}
    {sl_SIX2_2 : Array (Option Value)}
    {dd_SIX2_3 : Option Addr}
    {its_SIX2_3 : Array Value}
    {n_SIX2_3 : Nat}
    {sl_SIX2_3 : Array (Option Value)}
    {dd_SIX2_4 : Option Addr}
    {its_SIX2_4 : Array Value}
    {n_SIX2_4 : Nat}
    {sl_SIX2_4 : Array (Option Value)}
    {dd_SIX2_5 : Option Addr}
    {its_SIX2_5 : Array Value}
    {n_SIX2_5 : Nat}
    {sl_SIX2_5 : Array (Option Value)}
    {dd_SIX3 : Option Addr}
    {its_SIX3 : Array Value}
    {n_SIX3 : Nat}
    {sl_SIX3 : Array (Option Value)}
    {dd_SIX3_0 : Option Addr}
    {its_SIX3_0 : Array Value}
    {n_SIX3_0 : Nat}
    {sl_SIX3_0 : Array (Option Value)}
    {dd_SIX3_1 : Option Addr}
    {its_SIX3_1 : Array Value}
    {n_SIX3_1 : Nat}
    {sl_SIX3_1 : Array (Option Value)}
    {dd_SIX3_2 : Option Addr}
    {its_SIX3_2 : Array Value}
    {n_SIX3_2 : Nat}
    {sl_SIX3_2 : Array (Option Value)}
    {dd_SIX3_3 : Option Addr}
    {its_SIX3_3 : Array Value}
    {n_SIX3_3 : Nat}
    {sl_SIX3_3 : Array (Option Value)}
    {dd_SIX3_4 : Option Addr}
    {its_SIX3_4 : Array Value}
    {n_SIX3_4 : Nat}
    {sl_SIX3_4 : Array (Option Value)}
    {dd_SIX3_5 : Option Addr}
    {its_SIX3_5 : Array Value}
    {n_SIX3_5 : Nat}
    {sl_SIX3_5 : Array (Option Value)}
    {nm_BadCount q_BadCount : Str}
    {bs_BadCount bm_BadCount sub_BadCount : List Value}
    {sn_BadCount : List Str}
    {ab_BadCount : Bool}
    {col_BadCount : Option Bool}
    {m0_BadCount m1_BadCount m2_BadCount m3_BadCount m5_BadCount : Option Value}
    {vs_BadCount : Array Value}
    {fl_BadCount : Str}
    {tf_BadCount : Tok}
    {nm_BadMode q_BadMode : Str}
    {bs_BadMode bm_BadMode sub_BadMode : List Value}
    {sn_BadMode : List Str}
    {ab_BadMode : Bool}
    {col_BadMode : Option Bool}
    {m0_BadMode m1_BadMode m2_BadMode m3_BadMode m5_BadMode : Option Value}
    {vs_BadMode : Array Value}
    {fl_BadMode : Str}
    {tf_BadMode : Tok}
    {nm_BadChoice q_BadChoice : Str}
    {bs_BadChoice bm_BadChoice sub_BadChoice : List Value}
    {sn_BadChoice : List Str}
    {ab_BadChoice : Bool}
    {col_BadChoice : Option Bool}
    {m0_BadChoice m1_BadChoice m2_BadChoice m3_BadChoice m5_BadChoice : Option Value}
    {vs_BadChoice : Array Value}
    {fl_BadChoice : Str}
    {tf_BadChoice : Tok}
    {nm_BadStep q_BadStep : Str}
    {bs_BadStep bm_BadStep sub_BadStep : List Value}
    {sn_BadStep : List Str}
    {ab_BadStep : Bool}
    {col_BadStep : Option Bool}
    {m0_BadStep m1_BadStep m2_BadStep m3_BadStep m5_BadStep : Option Value}
    {vs_BadStep : Array Value}
    {fl_BadStep : Str}
    {tf_BadStep : Tok}
    {cd_Step : ClassData}
    (a_Step : PySem.W.nsIn K mainGlobals "Step" = some (some (.ref f_Step)))
    (pg_Step : PySem.W.plainGet K f_Step Str.empty = true)
    (hd_Step : PySem.W.hasDictIn K f_Step = true)
    (po_Step : PySem.W.plainOver K f_Step = true)
    (sa_Step : PySem.W.findIn K (.ref f_Step) "__setattr__" = some (some (.builtin "object.__setattr__")))
    (ha_Step : PySem.W.findIn K (.ref f_Step) "__class__" = some (some (.builtin "object.__class__")))
    (hm_Step : PySem.W.mroIn K f_Step (.type "object") = some true)
    (kc_Step : PySem.W.keepIn K (.ref f_Step) = true)
    (mk_Step : PySem.W.makesIn K f_Step = true)
    (ii_Step : PySem.W.findIn K (.ref f_Step) "__init__" = some (some (.ref f_Step___init__)))
    (fi_Step : PySem.W.isFn K (.ref f_Step___init__) = true)
    (nb_Step_int : PySem.W.mroIn K f_Step (.type "int") = some false)
    (ni_Step_int : PySem.W.kitOne K (.type "int") (.ref f_Step) = some false)
    (nb_Step_bool : PySem.W.mroIn K f_Step (.type "bool") = some false)
    (ni_Step_bool : PySem.W.kitOne K (.type "bool") (.ref f_Step) = some false)
    (nb_Step_str : PySem.W.mroIn K f_Step (.type "str") = some false)
    (ni_Step_str : PySem.W.kitOne K (.type "str") (.ref f_Step) = some false)
    (nb_Step_list : PySem.W.mroIn K f_Step (.type "list") = some false)
    (ni_Step_list : PySem.W.kitOne K (.type "list") (.ref f_Step) = some false)
    (nb_Step_tuple : PySem.W.mroIn K f_Step (.type "tuple") = some false)
    (ni_Step_tuple : PySem.W.kitOne K (.type "tuple") (.ref f_Step) = some false)
    (nb_Step_NoneType : PySem.W.mroIn K f_Step (.type "NoneType") = some false)
    (ni_Step_NoneType : PySem.W.kitOne K (.type "NoneType") (.ref f_Step) = some false)
    (hne_Step : PySem.W.findIn K (.ref f_Step) "__ne__" = some (some (.builtin "object.__ne__")))
    (n_operation_Step : PySem.W.findIn K (.ref f_Step) "operation" = some none)
    (n_left_Step : PySem.W.findIn K (.ref f_Step) "left" = some none)
    (n_right_Step : PySem.W.findIn K (.ref f_Step) "right" = some none)
    (n_mode_Step : PySem.W.findIn K (.ref f_Step) "mode" = some none)
    (at___eq___Step : PySem.W.findIn K (.ref f_Step) "__eq__" = some (some (.ref f_Step___eq__)))
    (if___eq___Step : PySem.W.isFn K (.ref f_Step___eq__) = true)
    (a_Program : PySem.W.nsIn K mainGlobals "Program" = some (some (.ref f_Program)))
    (pg_Program : PySem.W.plainGet K f_Program Str.empty = true)
    (hd_Program : PySem.W.hasDictIn K f_Program = true)
    (po_Program : PySem.W.plainOver K f_Program = true)
    (sa_Program : PySem.W.findIn K (.ref f_Program) "__setattr__" = some (some (.builtin "object.__setattr__")))
    (ha_Program : PySem.W.findIn K (.ref f_Program) "__class__" = some (some (.builtin "object.__class__")))
    (hm_Program : PySem.W.mroIn K f_Program (.type "object") = some true)
    (kc_Program : PySem.W.keepIn K (.ref f_Program) = true)
    (mk_Program : PySem.W.makesIn K f_Program = true)
    (ii_Program : PySem.W.findIn K (.ref f_Program) "__init__" = some (some (.ref f_Program___init__)))
    (fi_Program : PySem.W.isFn K (.ref f_Program___init__) = true)
    (ty_Program : PySem.W.typeIn K (.ref f_Program) = some mc_Program)
    (rd_Program : PySem.W.readsIn K f_Program mc_Program = true)
    (rg_Program : PySem.W.specialIn K (.ref f_Program) "__getattribute__" = some (some (.builtin "type.__getattribute__")))
    (cv_MOST_Program : PySem.W.findCls K (.ref f_Program) mc_Program "MOST" = some (.val cu_Program_MOST))
    (cr_MOST_Program : RelV (.int 12) cu_Program_MOST)
    (nb_Program_int : PySem.W.mroIn K f_Program (.type "int") = some false)
    (ni_Program_int : PySem.W.kitOne K (.type "int") (.ref f_Program) = some false)
    (nb_Program_bool : PySem.W.mroIn K f_Program (.type "bool") = some false)
    (ni_Program_bool : PySem.W.kitOne K (.type "bool") (.ref f_Program) = some false)
    (nb_Program_str : PySem.W.mroIn K f_Program (.type "str") = some false)
    (ni_Program_str : PySem.W.kitOne K (.type "str") (.ref f_Program) = some false)
    (nb_Program_list : PySem.W.mroIn K f_Program (.type "list") = some false)
    (ni_Program_list : PySem.W.kitOne K (.type "list") (.ref f_Program) = some false)
    (nb_Program_tuple : PySem.W.mroIn K f_Program (.type "tuple") = some false)
    (ni_Program_tuple : PySem.W.kitOne K (.type "tuple") (.ref f_Program) = some false)
    (nb_Program_NoneType : PySem.W.mroIn K f_Program (.type "NoneType") = some false)
    (ni_Program_NoneType : PySem.W.kitOne K (.type "NoneType") (.ref f_Program) = some false)
    (hne_Program : PySem.W.findIn K (.ref f_Program) "__ne__" = some (some (.builtin "object.__ne__")))
    (n_steps_Program : PySem.W.findIn K (.ref f_Program) "steps" = some none)
    (at___add___Program : PySem.W.findIn K (.ref f_Program) "__add__" = some (some (.ref f_Program___add__)))
    (if___add___Program : PySem.W.isFn K (.ref f_Program___add__) = true)
    (at___iter___Program : PySem.W.findIn K (.ref f_Program) "__iter__" = some (some (.ref f_Program___iter__)))
    (if___iter___Program : PySem.W.isFn K (.ref f_Program___iter__) = true)
    (at___eq___Program : PySem.W.findIn K (.ref f_Program) "__eq__" = some (some (.ref f_Program___eq__)))
    (if___eq___Program : PySem.W.isFn K (.ref f_Program___eq__) = true)
    (at___len___Program : PySem.W.findIn K (.ref f_Program) "__len__" = some (some (.ref f_Program___len__)))
    (if___len___Program : PySem.W.isFn K (.ref f_Program___len__) = true)
    (sf_Program : PySem.W.selfFirst K f_Program = true)
    (su_Program : PySem.W.subIn K (.type "int") (.ref f_Program) = some false)
    (l_Step___init__ : K.lookup f_Step___init__ = some ⟨oc_Step___init__, od_Step___init__, .func (PySem.W.fnOf "__init__" "Step.__init__" (defArgs S_Step___init__) (defBody S_Step___init__) (defScope S_Step___init__) (.ref T_Step___init__) kV_Step___init__ dc_Step___init__ pm_Step___init__ an_Step___init__ cd_Step___init__ ct_Step___init__), sl_Step___init__⟩)
    (c_Step___init__ : PySem.W.codeIn K cd_Step___init__ "Step.__init__" = true)
    (k_Step___init__ : PySem.W.keepIn K (.ref f_Step___init__) = true)
    (lT_Step___init__ : K.lookup T_Step___init__ = some ⟨ocT_Step___init__, odT_Step___init__, .seq itT_Step___init__ nT_Step___init__, slT_Step___init__⟩)
    (vT_Step___init__ : Vals [V.str "nearest-even"] itT_Step___init__.toList)
    (l_Step___eq__ : K.lookup f_Step___eq__ = some ⟨oc_Step___eq__, od_Step___eq__, .func (PySem.W.fnOf "__eq__" "Step.__eq__" (defArgs S_Step___eq__) (defBody S_Step___eq__) (defScope S_Step___eq__) .none kV_Step___eq__ dc_Step___eq__ pm_Step___eq__ an_Step___eq__ cd_Step___eq__ ct_Step___eq__), sl_Step___eq__⟩)
    (c_Step___eq__ : PySem.W.codeIn K cd_Step___eq__ "Step.__eq__" = true)
    (k_Step___eq__ : PySem.W.keepIn K (.ref f_Step___eq__) = true)
    (l_Program___init__ : K.lookup f_Program___init__ = some ⟨oc_Program___init__, od_Program___init__, .func (PySem.W.fnOf "__init__" "Program.__init__" (defArgs S_Program___init__) (defBody S_Program___init__) (defScope S_Program___init__) .none kV_Program___init__ dc_Program___init__ pm_Program___init__ an_Program___init__ cd_Program___init__ ct_Program___init__), sl_Program___init__⟩)
    (c_Program___init__ : PySem.W.codeIn K cd_Program___init__ "Program.__init__" = true)
    (k_Program___init__ : PySem.W.keepIn K (.ref f_Program___init__) = true)
    (l_Program___add__ : K.lookup f_Program___add__ = some ⟨oc_Program___add__, od_Program___add__, .func (PySem.W.fnOf "__add__" "Program.__add__" (defArgs S_Program___add__) (defBody S_Program___add__) (defScope S_Program___add__) .none kV_Program___add__ dc_Program___add__ pm_Program___add__ an_Program___add__ cd_Program___add__ ct_Program___add__), sl_Program___add__⟩)
    (c_Program___add__ : PySem.W.codeIn K cd_Program___add__ "Program.__add__" = true)
    (k_Program___add__ : PySem.W.keepIn K (.ref f_Program___add__) = true)
    (l_Program___iter__ : K.lookup f_Program___iter__ = some ⟨oc_Program___iter__, od_Program___iter__, .func (PySem.W.fnOf "__iter__" "Program.__iter__" (defArgs S_Program___iter__) (defBody S_Program___iter__) (defScope S_Program___iter__) .none kV_Program___iter__ dc_Program___iter__ pm_Program___iter__ an_Program___iter__ cd_Program___iter__ ct_Program___iter__), sl_Program___iter__⟩)
    (c_Program___iter__ : PySem.W.codeIn K cd_Program___iter__ "Program.__iter__" = true)
    (k_Program___iter__ : PySem.W.keepIn K (.ref f_Program___iter__) = true)
    (l_Program___eq__ : K.lookup f_Program___eq__ = some ⟨oc_Program___eq__, od_Program___eq__, .func (PySem.W.fnOf "__eq__" "Program.__eq__" (defArgs S_Program___eq__) (defBody S_Program___eq__) (defScope S_Program___eq__) .none kV_Program___eq__ dc_Program___eq__ pm_Program___eq__ an_Program___eq__ cd_Program___eq__ ct_Program___eq__), sl_Program___eq__⟩)
    (c_Program___eq__ : PySem.W.codeIn K cd_Program___eq__ "Program.__eq__" = true)
    (k_Program___eq__ : PySem.W.keepIn K (.ref f_Program___eq__) = true)
    (l_Program___len__ : K.lookup f_Program___len__ = some ⟨oc_Program___len__, od_Program___len__, .func (PySem.W.fnOf "__len__" "Program.__len__" (defArgs S_Program___len__) (defBody S_Program___len__) (defScope S_Program___len__) .none kV_Program___len__ dc_Program___len__ pm_Program___len__ an_Program___len__ cd_Program___len__ ct_Program___len__), sl_Program___len__⟩)
    (c_Program___len__ : PySem.W.codeIn K cd_Program___len__ "Program.__len__" = true)
    (k_Program___len__ : PySem.W.keepIn K (.ref f_Program___len__) = true)
    (a_check_mode : PySem.W.nsIn K mainGlobals "check_mode" = some (some (.ref f_check_mode)))
    (l_check_mode : K.lookup f_check_mode = some ⟨oc_check_mode, od_check_mode, .func (PySem.W.fnOf "check_mode" "check_mode" (defArgs S_check_mode) (defBody S_check_mode) (defScope S_check_mode) .none kV_check_mode dc_check_mode pm_check_mode an_check_mode cd_check_mode ct_check_mode), sl_check_mode⟩)
    (c_check_mode : PySem.W.codeIn K cd_check_mode "check_mode" = true)
    (k_check_mode : PySem.W.keepIn K (.ref f_check_mode) = true)
    (a_invalid_part : PySem.W.nsIn K mainGlobals "invalid_part" = some (some (.ref f_invalid_part)))
    (l_invalid_part : K.lookup f_invalid_part = some ⟨oc_invalid_part, od_invalid_part, .func (PySem.W.fnOf "invalid_part" "invalid_part" (defArgs S_invalid_part) (defBody S_invalid_part) (defScope S_invalid_part) .none kV_invalid_part dc_invalid_part pm_invalid_part an_invalid_part cd_invalid_part ct_invalid_part), sl_invalid_part⟩)
    (c_invalid_part : PySem.W.codeIn K cd_invalid_part "invalid_part" = true)
    (k_invalid_part : PySem.W.keepIn K (.ref f_invalid_part) = true)
    (a_spread : PySem.W.nsIn K mainGlobals "spread" = some (some (.ref f_spread)))
    (l_spread : K.lookup f_spread = some ⟨oc_spread, od_spread, .func (PySem.W.fnOf "spread" "spread" (defArgs S_spread) (defBody S_spread) (defScope S_spread) .none kV_spread dc_spread pm_spread an_spread cd_spread ct_spread), sl_spread⟩)
    (c_spread : PySem.W.codeIn K cd_spread "spread" = true)
    (k_spread : PySem.W.keepIn K (.ref f_spread) = true)
    (a_check_choices : PySem.W.nsIn K mainGlobals "check_choices" = some (some (.ref f_check_choices)))
    (l_check_choices : K.lookup f_check_choices = some ⟨oc_check_choices, od_check_choices, .func (PySem.W.fnOf "check_choices" "check_choices" (defArgs S_check_choices) (defBody S_check_choices) (defScope S_check_choices) .none kV_check_choices dc_check_choices pm_check_choices an_check_choices cd_check_choices ct_check_choices), sl_check_choices⟩)
    (c_check_choices : PySem.W.codeIn K cd_check_choices "check_choices" = true)
    (k_check_choices : PySem.W.keepIn K (.ref f_check_choices) = true)
    (a_built : PySem.W.nsIn K mainGlobals "built" = some (some (.ref f_built)))
    (l_built : K.lookup f_built = some ⟨oc_built, od_built, .func (PySem.W.fnOf "built" "built" (defArgs S_built) (defBody S_built) (defScope S_built) .none kV_built dc_built pm_built an_built cd_built ct_built), sl_built⟩)
    (c_built : PySem.W.codeIn K cd_built "built" = true)
    (k_built : PySem.W.keepIn K (.ref f_built) = true)
    (a_three : PySem.W.nsIn K mainGlobals "three" = some (some (.ref f_three)))
    (l_three : K.lookup f_three = some ⟨oc_three, od_three, .func (PySem.W.fnOf "three" "three" (defArgs S_three) (defBody S_three) (defScope S_three) .none (.ref KD_three) dc_three pm_three an_three cd_three ct_three), sl_three⟩)
    (kd0_three : PySem.W.nsIn K KD_three "first" = some (some ku0_three))
    (kr0_three : RelV (.str "a") ku0_three)
    (kd1_three : PySem.W.nsIn K KD_three "operation" = some (some ku1_three))
    (kr1_three : RelV (.str "+") ku1_three)
    (c_three : PySem.W.codeIn K cd_three "three" = true)
    (k_three : PySem.W.keepIn K (.ref f_three) = true)
    (a_six : PySem.W.nsIn K mainGlobals "six" = some (some (.ref f_six)))
    (l_six : K.lookup f_six = some ⟨oc_six, od_six, .func (PySem.W.fnOf "six" "six" (defArgs S_six) (defBody S_six) (defScope S_six) .none (.ref KD_six) dc_six pm_six an_six cd_six ct_six), sl_six⟩)
    (kd0_six : PySem.W.nsIn K KD_six "first" = some (some ku0_six))
    (kr0_six : RelV (.str "a") ku0_six)
    (kd1_six : PySem.W.nsIn K KD_six "operation" = some (some ku1_six))
    (kr1_six : RelV (.str "+") ku1_six)
    (c_six : PySem.W.codeIn K cd_six "six" = true)
    (k_six : PySem.W.keepIn K (.ref f_six) = true)
    (a__law_source : PySem.W.nsIn K mainGlobals "_law_source" = some (some (.ref f__law_source)))
    (l__law_source : K.lookup f__law_source = some ⟨oc__law_source, od__law_source, .func (PySem.W.fnOf "_law_source" "_law_source" (defArgs S__law_source) (defBody S__law_source) (defScope S__law_source) .none kV__law_source dc__law_source pm__law_source an__law_source cd__law_source ct__law_source), sl__law_source⟩)
    (c__law_source : PySem.W.codeIn K cd__law_source "_law_source" = true)
    (k__law_source : PySem.W.keepIn K (.ref f__law_source) = true)
    (a__law_draw : PySem.W.nsIn K mainGlobals "_law_draw" = some (some (.ref f__law_draw)))
    (l__law_draw : K.lookup f__law_draw = some ⟨oc__law_draw, od__law_draw, .func (PySem.W.fnOf "_law_draw" "_law_draw" (defArgs S__law_draw) (defBody S__law_draw) (defScope S__law_draw) .none kV__law_draw dc__law_draw pm__law_draw an__law_draw cd__law_draw ct__law_draw), sl__law_draw⟩)
    (c__law_draw : PySem.W.codeIn K cd__law_draw "_law_draw" = true)
    (k__law_draw : PySem.W.keepIn K (.ref f__law_draw) = true)
    (a__law_modes : PySem.W.nsIn K mainGlobals "_law_modes" = some (some (.ref f__law_modes)))
    (l__law_modes : K.lookup f__law_modes = some ⟨oc__law_modes, od__law_modes, .func (PySem.W.fnOf "_law_modes" "_law_modes" (defArgs S__law_modes) (defBody S__law_modes) (defScope S__law_modes) .none kV__law_modes dc__law_modes pm__law_modes an__law_modes cd__law_modes ct__law_modes), sl__law_modes⟩)
    (c__law_modes : PySem.W.codeIn K cd__law_modes "_law_modes" = true)
    (k__law_modes : PySem.W.keepIn K (.ref f__law_modes) = true)
    (a__law_mode : PySem.W.nsIn K mainGlobals "_law_mode" = some (some (.ref f__law_mode)))
    (l__law_mode : K.lookup f__law_mode = some ⟨oc__law_mode, od__law_mode, .func (PySem.W.fnOf "_law_mode" "_law_mode" (defArgs S__law_mode) (defBody S__law_mode) (defScope S__law_mode) .none kV__law_mode dc__law_mode pm__law_mode an__law_mode cd__law_mode ct__law_mode), sl__law_mode⟩)
    (c__law_mode : PySem.W.codeIn K cd__law_mode "_law_mode" = true)
    (k__law_mode : PySem.W.keepIn K (.ref f__law_mode) = true)
    (a__law_equal : PySem.W.nsIn K mainGlobals "_law_equal" = some (some (.ref f__law_equal)))
    (l__law_equal : K.lookup f__law_equal = some ⟨oc__law_equal, od__law_equal, .func (PySem.W.fnOf "_law_equal" "_law_equal" (defArgs S__law_equal) (defBody S__law_equal) (defScope S__law_equal) .none kV__law_equal dc__law_equal pm__law_equal an__law_equal cd__law_equal ct__law_equal), sl__law_equal⟩)
    (c__law_equal : PySem.W.codeIn K cd__law_equal "_law_equal" = true)
    (k__law_equal : PySem.W.keepIn K (.ref f__law_equal) = true)
    (a__law_rows : PySem.W.nsIn K mainGlobals "_law_rows" = some (some (.ref f__law_rows)))
    (l__law_rows : K.lookup f__law_rows = some ⟨oc__law_rows, od__law_rows, .func (PySem.W.fnOf "_law_rows" "_law_rows" (defArgs S__law_rows) (defBody S__law_rows) (defScope S__law_rows) .none kV__law_rows dc__law_rows pm__law_rows an__law_rows cd__law_rows ct__law_rows), sl__law_rows⟩)
    (c__law_rows : PySem.W.codeIn K cd__law_rows "_law_rows" = true)
    (k__law_rows : PySem.W.keepIn K (.ref f__law_rows) = true)
    (a__law_program : PySem.W.nsIn K mainGlobals "_law_program" = some (some (.ref f__law_program)))
    (l__law_program : K.lookup f__law_program = some ⟨oc__law_program, od__law_program, .func (PySem.W.fnOf "_law_program" "_law_program" (defArgs S__law_program) (defBody S__law_program) (defScope S__law_program) .none kV__law_program dc__law_program pm__law_program an__law_program cd__law_program ct__law_program), sl__law_program⟩)
    (c__law_program : PySem.W.codeIn K cd__law_program "_law_program" = true)
    (k__law_program : PySem.W.keepIn K (.ref f__law_program) = true)
    (a__law_three : PySem.W.nsIn K mainGlobals "_law_three" = some (some (.ref f__law_three)))
    (l__law_three : K.lookup f__law_three = some ⟨oc__law_three, od__law_three, .func (PySem.W.fnOf "_law_three" "_law_three" (defArgs S__law_three) (defBody S__law_three) (defScope S__law_three) .none kV__law_three dc__law_three pm__law_three an__law_three cd__law_three ct__law_three), sl__law_three⟩)
    (c__law_three : PySem.W.codeIn K cd__law_three "_law_three" = true)
    (k__law_three : PySem.W.keepIn K (.ref f__law_three) = true)
    (a__law_six : PySem.W.nsIn K mainGlobals "_law_six" = some (some (.ref f__law_six)))
    (l__law_six : K.lookup f__law_six = some ⟨oc__law_six, od__law_six, .func (PySem.W.fnOf "_law_six" "_law_six" (defArgs S__law_six) (defBody S__law_six) (defScope S__law_six) .none kV__law_six dc__law_six pm__law_six an__law_six cd__law_six ct__law_six), sl__law_six⟩)
    (c__law_six : PySem.W.codeIn K cd__law_six "_law_six" = true)
    (k__law_six : PySem.W.keepIn K (.ref f__law_six) = true)
    (a__law_case : PySem.W.nsIn K mainGlobals "_law_case" = some (some (.ref f__law_case)))
    (l__law_case : K.lookup f__law_case = some ⟨oc__law_case, od__law_case, .func (PySem.W.fnOf "_law_case" "_law_case" (defArgs S__law_case) (defBody S__law_case) (defScope S__law_case) .none kV__law_case dc__law_case pm__law_case an__law_case cd__law_case ct__law_case), sl__law_case⟩)
    (c__law_case : PySem.W.codeIn K cd__law_case "_law_case" = true)
    (k__law_case : PySem.W.keepIn K (.ref f__law_case) = true)
    (a__law_right : PySem.W.nsIn K mainGlobals "_law_right" = some (some (.ref f__law_right)))
    (l__law_right : K.lookup f__law_right = some ⟨oc__law_right, od__law_right, .func (PySem.W.fnOf "_law_right" "_law_right" (defArgs S__law_right) (defBody S__law_right) (defScope S__law_right) .none kV__law_right dc__law_right pm__law_right an__law_right cd__law_right ct__law_right), sl__law_right⟩)
    (c__law_right : PySem.W.codeIn K cd__law_right "_law_right" = true)
    (k__law_right : PySem.W.keepIn K (.ref f__law_right) = true)
    (a_law : PySem.W.nsIn K mainGlobals "law" = some (some (.ref f_law)))
    (l_law : K.lookup f_law = some ⟨oc_law, od_law, .func (PySem.W.fnOf "law" "law" (defArgs S_law) (defBody S_law) (defScope S_law) .none kV_law dc_law pm_law an_law cd_law ct_law), sl_law⟩)
    (c_law : PySem.W.codeIn K cd_law "law" = true)
    (k_law : PySem.W.keepIn K (.ref f_law) = true)
    (a_MODES : PySem.W.nsIn K mainGlobals "MODES" = some (some (.ref f_MODES)))
    (a_THREE : PySem.W.nsIn K mainGlobals "THREE" = some (some (.ref f_THREE)))
    (a_SIX : PySem.W.nsIn K mainGlobals "SIX" = some (some (.ref f_SIX)))
    (l_MODES : K.lookup f_MODES = some ⟨.type "tuple", dd_MODES, .seq its_MODES n_MODES, sl_MODES⟩)
    (z_MODES : its_MODES.size ≤ sizeLine)
    (v_MODES : Vals (modes.map V.str) its_MODES.toList)
    (l_THREE : K.lookup f_THREE = some ⟨.type "dict", none, .dict es_THREE n_THREE, #[]⟩)
    (y_THREE : PySem.W.KeysLit w.params es_THREE.toList)
    (e_THREE0 : PySem.W.nsIn K f_THREE "+a" = some (some (.ref t_THREE0)))
    (l_THREE0 : K.lookup t_THREE0 = some ⟨.type "tuple", dd_THREE0, .seq its_THREE0 n_THREE0, sl_THREE0⟩)
    (z_THREE0 : its_THREE0.size ≤ sizeLine)
    (v_THREE0 : Vals [.ref t_THREE0_0, .ref t_THREE0_1, .ref t_THREE0_2] its_THREE0.toList)
    (l_THREE0_0 : K.lookup t_THREE0_0 = some ⟨.type "tuple", dd_THREE0_0, .seq its_THREE0_0 n_THREE0_0, sl_THREE0_0⟩)
    (z_THREE0_0 : its_THREE0_0.size ≤ sizeLine)
    (v_THREE0_0 : Vals [.str "+", .int 0, .int 1] its_THREE0_0.toList)
    (l_THREE0_1 : K.lookup t_THREE0_1 = some ⟨.type "tuple", dd_THREE0_1, .seq its_THREE0_1 n_THREE0_1, sl_THREE0_1⟩)
    (z_THREE0_1 : its_THREE0_1.size ≤ sizeLine)
    (v_THREE0_1 : Vals [.str "-", .int 2, .int 0] its_THREE0_1.toList)
    (l_THREE0_2 : K.lookup t_THREE0_2 = some ⟨.type "tuple", dd_THREE0_2, .seq its_THREE0_2 n_THREE0_2, sl_THREE0_2⟩)
    (z_THREE0_2 : its_THREE0_2.size ≤ sizeLine)
    (v_THREE0_2 : Vals [.str "-", .int 1, .int 3] its_THREE0_2.toList)
    (e_THREE1 : PySem.W.nsIn K f_THREE "+b" = some (some (.ref t_THREE1)))
    (l_THREE1 : K.lookup t_THREE1 = some ⟨.type "tuple", dd_THREE1, .seq its_THREE1 n_THREE1, sl_THREE1⟩)
    (z_THREE1 : its_THREE1.size ≤ sizeLine)
    (v_THREE1 : Vals [.ref t_THREE1_0, .ref t_THREE1_1, .ref t_THREE1_2] its_THREE1.toList)
    (l_THREE1_0 : K.lookup t_THREE1_0 = some ⟨.type "tuple", dd_THREE1_0, .seq its_THREE1_0 n_THREE1_0, sl_THREE1_0⟩)
    (z_THREE1_0 : its_THREE1_0.size ≤ sizeLine)
    (v_THREE1_0 : Vals [.str "+", .int 0, .int 1] its_THREE1_0.toList)
    (l_THREE1_1 : K.lookup t_THREE1_1 = some ⟨.type "tuple", dd_THREE1_1, .seq its_THREE1_1 n_THREE1_1, sl_THREE1_1⟩)
    (z_THREE1_1 : its_THREE1_1.size ≤ sizeLine)
    (v_THREE1_1 : Vals [.str "-", .int 2, .int 1] its_THREE1_1.toList)
    (l_THREE1_2 : K.lookup t_THREE1_2 = some ⟨.type "tuple", dd_THREE1_2, .seq its_THREE1_2 n_THREE1_2, sl_THREE1_2⟩)
    (z_THREE1_2 : its_THREE1_2.size ≤ sizeLine)
    (v_THREE1_2 : Vals [.str "-", .int 0, .int 3] its_THREE1_2.toList)
    (e_THREE2 : PySem.W.nsIn K f_THREE "-a" = some (some (.ref t_THREE2)))
    (l_THREE2 : K.lookup t_THREE2 = some ⟨.type "tuple", dd_THREE2, .seq its_THREE2 n_THREE2, sl_THREE2⟩)
    (z_THREE2 : its_THREE2.size ≤ sizeLine)
    (v_THREE2 : Vals [.ref t_THREE2_0, .ref t_THREE2_1, .ref t_THREE2_2] its_THREE2.toList)
    (l_THREE2_0 : K.lookup t_THREE2_0 = some ⟨.type "tuple", dd_THREE2_0, .seq its_THREE2_0 n_THREE2_0, sl_THREE2_0⟩)
    (z_THREE2_0 : its_THREE2_0.size ≤ sizeLine)
    (v_THREE2_0 : Vals [.str "-", .int 0, .int 1] its_THREE2_0.toList)
    (l_THREE2_1 : K.lookup t_THREE2_1 = some ⟨.type "tuple", dd_THREE2_1, .seq its_THREE2_1 n_THREE2_1, sl_THREE2_1⟩)
    (z_THREE2_1 : its_THREE2_1.size ≤ sizeLine)
    (v_THREE2_1 : Vals [.str "-", .int 0, .int 2] its_THREE2_1.toList)
    (l_THREE2_2 : K.lookup t_THREE2_2 = some ⟨.type "tuple", dd_THREE2_2, .seq its_THREE2_2 n_THREE2_2, sl_THREE2_2⟩)
    (z_THREE2_2 : its_THREE2_2.size ≤ sizeLine)
    (v_THREE2_2 : Vals [.str "-", .int 3, .int 1] its_THREE2_2.toList)
    (e_THREE3 : PySem.W.nsIn K f_THREE "-b" = some (some (.ref t_THREE3)))
    (l_THREE3 : K.lookup t_THREE3 = some ⟨.type "tuple", dd_THREE3, .seq its_THREE3 n_THREE3, sl_THREE3⟩)
    (z_THREE3 : its_THREE3.size ≤ sizeLine)
    (v_THREE3 : Vals [.ref t_THREE3_0, .ref t_THREE3_1, .ref t_THREE3_2] its_THREE3.toList)
    (l_THREE3_0 : K.lookup t_THREE3_0 = some ⟨.type "tuple", dd_THREE3_0, .seq its_THREE3_0 n_THREE3_0, sl_THREE3_0⟩)
    (z_THREE3_0 : its_THREE3_0.size ≤ sizeLine)
    (v_THREE3_0 : Vals [.str "-", .int 0, .int 1] its_THREE3_0.toList)
    (l_THREE3_1 : K.lookup t_THREE3_1 = some ⟨.type "tuple", dd_THREE3_1, .seq its_THREE3_1 n_THREE3_1, sl_THREE3_1⟩)
    (z_THREE3_1 : its_THREE3_1.size ≤ sizeLine)
    (v_THREE3_1 : Vals [.str "+", .int 2, .int 1] its_THREE3_1.toList)
    (l_THREE3_2 : K.lookup t_THREE3_2 = some ⟨.type "tuple", dd_THREE3_2, .seq its_THREE3_2 n_THREE3_2, sl_THREE3_2⟩)
    (z_THREE3_2 : its_THREE3_2.size ≤ sizeLine)
    (v_THREE3_2 : Vals [.str "-", .int 0, .int 3] its_THREE3_2.toList)
    (l_SIX : K.lookup f_SIX = some ⟨.type "dict", none, .dict es_SIX n_SIX, #[]⟩)
    (y_SIX : PySem.W.KeysLit w.params es_SIX.toList)
    (e_SIX0 : PySem.W.nsIn K f_SIX "+a" = some (some (.ref t_SIX0)))
    (l_SIX0 : K.lookup t_SIX0 = some ⟨.type "tuple", dd_SIX0, .seq its_SIX0 n_SIX0, sl_SIX0⟩)
    (z_SIX0 : its_SIX0.size ≤ sizeLine)
    (v_SIX0 : Vals [.ref t_SIX0_0, .ref t_SIX0_1, .ref t_SIX0_2, .ref t_SIX0_3, .ref t_SIX0_4, .ref t_SIX0_5] its_SIX0.toList)
    (l_SIX0_0 : K.lookup t_SIX0_0 = some ⟨.type "tuple", dd_SIX0_0, .seq its_SIX0_0 n_SIX0_0, sl_SIX0_0⟩)
    (z_SIX0_0 : its_SIX0_0.size ≤ sizeLine)
    (v_SIX0_0 : Vals [.str "+", .int 0, .int 1] its_SIX0_0.toList)
    (l_SIX0_1 : K.lookup t_SIX0_1 = some ⟨.type "tuple", dd_SIX0_1, .seq its_SIX0_1 n_SIX0_1, sl_SIX0_1⟩)
    (z_SIX0_1 : its_SIX0_1.size ≤ sizeLine)
    (v_SIX0_1 : Vals [.str "-", .int 2, .int 1] its_SIX0_1.toList)
    (l_SIX0_2 : K.lookup t_SIX0_2 = some ⟨.type "tuple", dd_SIX0_2, .seq its_SIX0_2 n_SIX0_2, sl_SIX0_2⟩)
    (z_SIX0_2 : its_SIX0_2.size ≤ sizeLine)
    (v_SIX0_2 : Vals [.str "-", .int 2, .int 3] its_SIX0_2.toList)
    (l_SIX0_3 : K.lookup t_SIX0_3 = some ⟨.type "tuple", dd_SIX0_3, .seq its_SIX0_3 n_SIX0_3, sl_SIX0_3⟩)
    (z_SIX0_3 : its_SIX0_3.size ≤ sizeLine)
    (v_SIX0_3 : Vals [.str "-", .int 0, .int 3] its_SIX0_3.toList)
    (l_SIX0_4 : K.lookup t_SIX0_4 = some ⟨.type "tuple", dd_SIX0_4, .seq its_SIX0_4 n_SIX0_4, sl_SIX0_4⟩)
    (z_SIX0_4 : its_SIX0_4.size ≤ sizeLine)
    (v_SIX0_4 : Vals [.str "-", .int 1, .int 4] its_SIX0_4.toList)
    (l_SIX0_5 : K.lookup t_SIX0_5 = some ⟨.type "tuple", dd_SIX0_5, .seq its_SIX0_5 n_SIX0_5, sl_SIX0_5⟩)
    (z_SIX0_5 : its_SIX0_5.size ≤ sizeLine)
    (v_SIX0_5 : Vals [.str "+", .int 5, .int 6] its_SIX0_5.toList)
    (e_SIX1 : PySem.W.nsIn K f_SIX "+b" = some (some (.ref t_SIX1)))
    (l_SIX1 : K.lookup t_SIX1 = some ⟨.type "tuple", dd_SIX1, .seq its_SIX1 n_SIX1, sl_SIX1⟩)
    (z_SIX1 : its_SIX1.size ≤ sizeLine)
    (v_SIX1 : Vals [.ref t_SIX1_0, .ref t_SIX1_1, .ref t_SIX1_2, .ref t_SIX1_3, .ref t_SIX1_4, .ref t_SIX1_5] its_SIX1.toList)
    (l_SIX1_0 : K.lookup t_SIX1_0 = some ⟨.type "tuple", dd_SIX1_0, .seq its_SIX1_0 n_SIX1_0, sl_SIX1_0⟩)
    (z_SIX1_0 : its_SIX1_0.size ≤ sizeLine)
    (v_SIX1_0 : Vals [.str "+", .int 0, .int 1] its_SIX1_0.toList)
    (l_SIX1_1 : K.lookup t_SIX1_1 = some ⟨.type "tuple", dd_SIX1_1, .seq its_SIX1_1 n_SIX1_1, sl_SIX1_1⟩)
    (z_SIX1_1 : its_SIX1_1.size ≤ sizeLine)
    (v_SIX1_1 : Vals [.str "-", .int 2, .int 0] its_SIX1_1.toList)
    (l_SIX1_2 : K.lookup t_SIX1_2 = some ⟨.type "tuple", dd_SIX1_2, .seq its_SIX1_2 n_SIX1_2, sl_SIX1_2⟩)
    (z_SIX1_2 : its_SIX1_2.size ≤ sizeLine)
    (v_SIX1_2 : Vals [.str "-", .int 2, .int 3] its_SIX1_2.toList)
    (l_SIX1_3 : K.lookup t_SIX1_3 = some ⟨.type "tuple", dd_SIX1_3, .seq its_SIX1_3 n_SIX1_3, sl_SIX1_3⟩)
    (z_SIX1_3 : its_SIX1_3.size ≤ sizeLine)
    (v_SIX1_3 : Vals [.str "-", .int 1, .int 3] its_SIX1_3.toList)
    (l_SIX1_4 : K.lookup t_SIX1_4 = some ⟨.type "tuple", dd_SIX1_4, .seq its_SIX1_4 n_SIX1_4, sl_SIX1_4⟩)
    (z_SIX1_4 : its_SIX1_4.size ≤ sizeLine)
    (v_SIX1_4 : Vals [.str "-", .int 0, .int 4] its_SIX1_4.toList)
    (l_SIX1_5 : K.lookup t_SIX1_5 = some ⟨.type "tuple", dd_SIX1_5, .seq its_SIX1_5 n_SIX1_5, sl_SIX1_5⟩)
    (z_SIX1_5 : its_SIX1_5.size ≤ sizeLine)
    (v_SIX1_5 : Vals [.str "+", .int 5, .int 6] its_SIX1_5.toList)
    (e_SIX2 : PySem.W.nsIn K f_SIX "-a" = some (some (.ref t_SIX2)))
    (l_SIX2 : K.lookup t_SIX2 = some ⟨.type "tuple", dd_SIX2, .seq its_SIX2 n_SIX2, sl_SIX2⟩)
    (z_SIX2 : its_SIX2.size ≤ sizeLine)
    (v_SIX2 : Vals [.ref t_SIX2_0, .ref t_SIX2_1, .ref t_SIX2_2, .ref t_SIX2_3, .ref t_SIX2_4, .ref t_SIX2_5] its_SIX2.toList)
    (l_SIX2_0 : K.lookup t_SIX2_0 = some ⟨.type "tuple", dd_SIX2_0, .seq its_SIX2_0 n_SIX2_0, sl_SIX2_0⟩)
    (z_SIX2_0 : its_SIX2_0.size ≤ sizeLine)
    (v_SIX2_0 : Vals [.str "-", .int 0, .int 1] its_SIX2_0.toList)
    (l_SIX2_1 : K.lookup t_SIX2_1 = some ⟨.type "tuple", dd_SIX2_1, .seq its_SIX2_1 n_SIX2_1, sl_SIX2_1⟩)
    (z_SIX2_1 : its_SIX2_1.size ≤ sizeLine)
    (v_SIX2_1 : Vals [.str "+", .int 2, .int 1] its_SIX2_1.toList)
    (l_SIX2_2 : K.lookup t_SIX2_2 = some ⟨.type "tuple", dd_SIX2_2, .seq its_SIX2_2 n_SIX2_2, sl_SIX2_2⟩)
    (z_SIX2_2 : its_SIX2_2.size ≤ sizeLine)
    (v_SIX2_2 : Vals [.str "-", .int 3, .int 2] its_SIX2_2.toList)
    (l_SIX2_3 : K.lookup t_SIX2_3 = some ⟨.type "tuple", dd_SIX2_3, .seq its_SIX2_3 n_SIX2_3, sl_SIX2_3⟩)
    (z_SIX2_3 : its_SIX2_3.size ≤ sizeLine)
    (v_SIX2_3 : Vals [.str "-", .int 0, .int 3] its_SIX2_3.toList)
    (l_SIX2_4 : K.lookup t_SIX2_4 = some ⟨.type "tuple", dd_SIX2_4, .seq its_SIX2_4 n_SIX2_4, sl_SIX2_4⟩)
    (z_SIX2_4 : its_SIX2_4.size ≤ sizeLine)
    (v_SIX2_4 : Vals [.str "-", .int 4, .int 1] its_SIX2_4.toList)
    (l_SIX2_5 : K.lookup t_SIX2_5 = some ⟨.type "tuple", dd_SIX2_5, .seq its_SIX2_5 n_SIX2_5, sl_SIX2_5⟩)
    (z_SIX2_5 : its_SIX2_5.size ≤ sizeLine)
    (v_SIX2_5 : Vals [.str "+", .int 5, .int 6] its_SIX2_5.toList)
    (e_SIX3 : PySem.W.nsIn K f_SIX "-b" = some (some (.ref t_SIX3)))
    (l_SIX3 : K.lookup t_SIX3 = some ⟨.type "tuple", dd_SIX3, .seq its_SIX3 n_SIX3, sl_SIX3⟩)
    (z_SIX3 : its_SIX3.size ≤ sizeLine)
    (v_SIX3 : Vals [.ref t_SIX3_0, .ref t_SIX3_1, .ref t_SIX3_2, .ref t_SIX3_3, .ref t_SIX3_4, .ref t_SIX3_5] its_SIX3.toList)
    (l_SIX3_0 : K.lookup t_SIX3_0 = some ⟨.type "tuple", dd_SIX3_0, .seq its_SIX3_0 n_SIX3_0, sl_SIX3_0⟩)
    (z_SIX3_0 : its_SIX3_0.size ≤ sizeLine)
    (v_SIX3_0 : Vals [.str "-", .int 0, .int 1] its_SIX3_0.toList)
    (l_SIX3_1 : K.lookup t_SIX3_1 = some ⟨.type "tuple", dd_SIX3_1, .seq its_SIX3_1 n_SIX3_1, sl_SIX3_1⟩)
    (z_SIX3_1 : its_SIX3_1.size ≤ sizeLine)
    (v_SIX3_1 : Vals [.str "-", .int 0, .int 2] its_SIX3_1.toList)
    (l_SIX3_2 : K.lookup t_SIX3_2 = some ⟨.type "tuple", dd_SIX3_2, .seq its_SIX3_2 n_SIX3_2, sl_SIX3_2⟩)
    (z_SIX3_2 : its_SIX3_2.size ≤ sizeLine)
    (v_SIX3_2 : Vals [.str "+", .int 2, .int 3] its_SIX3_2.toList)
    (l_SIX3_3 : K.lookup t_SIX3_3 = some ⟨.type "tuple", dd_SIX3_3, .seq its_SIX3_3 n_SIX3_3, sl_SIX3_3⟩)
    (z_SIX3_3 : its_SIX3_3.size ≤ sizeLine)
    (v_SIX3_3 : Vals [.str "-", .int 3, .int 1] its_SIX3_3.toList)
    (l_SIX3_4 : K.lookup t_SIX3_4 = some ⟨.type "tuple", dd_SIX3_4, .seq its_SIX3_4 n_SIX3_4, sl_SIX3_4⟩)
    (z_SIX3_4 : its_SIX3_4.size ≤ sizeLine)
    (v_SIX3_4 : Vals [.str "-", .int 0, .int 4] its_SIX3_4.toList)
    (l_SIX3_5 : K.lookup t_SIX3_5 = some ⟨.type "tuple", dd_SIX3_5, .seq its_SIX3_5 n_SIX3_5, sl_SIX3_5⟩)
    (z_SIX3_5 : its_SIX3_5.size ≤ sizeLine)
    (v_SIX3_5 : Vals [.str "+", .int 5, .int 6] its_SIX3_5.toList)
    (z_len : PySem.W.nsIn K mainGlobals "len" = some none)
    (z_int : PySem.W.nsIn K mainGlobals "int" = some none)
    (z_abs : PySem.W.nsIn K mainGlobals "abs" = some none)
    (z_isi : PySem.W.nsIn K mainGlobals "isinstance" = some none)
    (z_range : PySem.W.nsIn K mainGlobals "range" = some none)
    (z_boo : PySem.W.nsIn K mainGlobals "bool" = some none)
    (z_str : PySem.W.nsIn K mainGlobals "str" = some none)
    (z_lst : PySem.W.nsIn K mainGlobals "list" = some none)
    (z_tup : PySem.W.nsIn K mainGlobals "tuple" = some none)
    (z_max : PySem.W.nsIn K mainGlobals "max" = some none)
    (z_min : PySem.W.nsIn K mainGlobals "min" = some none)
    (z_zip : PySem.W.nsIn K mainGlobals "zip" = some none)
    (z_srt : PySem.W.nsIn K mainGlobals "sorted" = some none)
    (z_rev : PySem.W.nsIn K mainGlobals "reversed" = some none)
    (z_dm : PySem.W.nsIn K mainGlobals "divmod" = some none)
    (z_enu : PySem.W.nsIn K mainGlobals "enumerate" = some none)
    (z_sum : PySem.W.nsIn K mainGlobals "sum" = some none)
    (z_ve : PySem.W.nsIn K mainGlobals "ValueError" = some none)
    (x_hn : PySem.W.specialIn K (.builtin "object.__class__") "__get__" = some (some (.builtin "getset_descriptor.__get__")))
    (x_ht : PySem.W.takesIn K (.builtin "object.__class__") = some true)
    (x_op : PySem.W.nsIn K cStatics "thirdparty.any" = some none)
    (x_su : PySem.W.nsIn K mainGlobals "super" = some none)
    (a_BadCount : PySem.W.nsIn K mainGlobals "BadCount" = some (some (.ref f_BadCount)))
    (x_BadCount : K.lookup f_BadCount = some (excClassObj nm_BadCount q_BadCount f_BadCount N_BadCount bs_BadCount bm_BadCount true sn_BadCount sub_BadCount ab_BadCount col_BadCount dd_BadCount m0_BadCount m1_BadCount m2_BadCount m3_BadCount m5_BadCount "ValueError.__new__"))
    (rv_BadCount : PySem.HandSPX.refsVE bm_BadCount = true)
    (sa_BadCount : PySem.W.findIn K (.ref f_BadCount) "__setattr__" = some (some (.builtin "object.__setattr__")))
    (ga_BadCount : PySem.W.findIn K (.ref f_BadCount) "__getattribute__" = some (some (.builtin "BaseException.__getattribute__")))
    (gg_BadCount : PySem.W.findIn K (.ref f_BadCount) "__getattr__" = some none)
    (ha_BadCount : PySem.W.findIn K (.ref f_BadCount) "__class__" = some (some (.builtin "object.__class__")))
    (hm_BadCount : PySem.W.mroIn K f_BadCount (.type "object") = some true)
    (ms_BadCount : PySem.W.mroIn K f_BadCount (.ref f_BadCount) = some true)
    (eC_BadCount : PySem.W.subIn K (.ref f_BadCount) (.type "BaseException") = some true)
    (sV_BadCount : PySem.W.subIn K (.ref f_BadCount) (.type "ValueError") = some true)
    (tC_BadCount : PySem.W.typeIn K (.ref f_BadCount) = some (.type "type"))
    (kC_BadCount : PySem.W.keepIn K (.ref f_BadCount) = true)
    (hd_BadCount : PySem.W.hasDictIn K f_BadCount = true)
    (ii_BadCount : PySem.W.findIn K (.ref f_BadCount) "__init__" = some (some (.ref i_BadCount)))
    (ti_BadCount : PySem.W.typeIn K (.ref i_BadCount) = some (.type "function"))
    (li_BadCount : K.lookup i_BadCount = some ⟨oc_BadCount, od_BadCount, .func (PySem.W.ksFn "__init__" "BadCount.__init__" (defArgs S_BadCount___init__) (defBody S_BadCount___init__) (defScope S_BadCount___init__) .none kV_BadCount dc_BadCount pm_BadCount an_BadCount (.ref cda_BadCount) ct_BadCount cc_BadCount), sl_BadCount⟩)
    (ci_BadCount : PySem.W.codeIn K (.ref cda_BadCount) "BadCount.__init__" = true)
    (lc_BadCount : K.lookup cda_BadCount = some ⟨ccl_BadCount, ccd_BadCount, .fields vs_BadCount, ccs_BadCount⟩)
    (v2_BadCount : vs_BadCount[2]? = some (.str fl_BadCount tf_BadCount))
    (fe_BadCount : ((PySem.Challenge.pw_lostpart_k34_standard_steps).main.file == fl_BadCount) = true)
    (lk_BadCount : K.lookup cc_BadCount = some ⟨cl_BadCount, cld_BadCount, .cell (some (.ref f_BadCount)), csl_BadCount⟩)
    (su_BadCount : PySem.W.ks_superIn K f_BadCount f_BadCount "__init__" = some (some (.builtin "ValueError.__init__")))
    (n_count_BadCount : PySem.W.findIn K (.ref f_BadCount) "count" = some none)
    (a_BadMode : PySem.W.nsIn K mainGlobals "BadMode" = some (some (.ref f_BadMode)))
    (x_BadMode : K.lookup f_BadMode = some (excClassObj nm_BadMode q_BadMode f_BadMode N_BadMode bs_BadMode bm_BadMode true sn_BadMode sub_BadMode ab_BadMode col_BadMode dd_BadMode m0_BadMode m1_BadMode m2_BadMode m3_BadMode m5_BadMode "ValueError.__new__"))
    (rv_BadMode : PySem.HandSPX.refsVE bm_BadMode = true)
    (sa_BadMode : PySem.W.findIn K (.ref f_BadMode) "__setattr__" = some (some (.builtin "object.__setattr__")))
    (ga_BadMode : PySem.W.findIn K (.ref f_BadMode) "__getattribute__" = some (some (.builtin "BaseException.__getattribute__")))
    (gg_BadMode : PySem.W.findIn K (.ref f_BadMode) "__getattr__" = some none)
    (ha_BadMode : PySem.W.findIn K (.ref f_BadMode) "__class__" = some (some (.builtin "object.__class__")))
    (hm_BadMode : PySem.W.mroIn K f_BadMode (.type "object") = some true)
    (ms_BadMode : PySem.W.mroIn K f_BadMode (.ref f_BadMode) = some true)
    (eC_BadMode : PySem.W.subIn K (.ref f_BadMode) (.type "BaseException") = some true)
    (sV_BadMode : PySem.W.subIn K (.ref f_BadMode) (.type "ValueError") = some true)
    (tC_BadMode : PySem.W.typeIn K (.ref f_BadMode) = some (.type "type"))
    (kC_BadMode : PySem.W.keepIn K (.ref f_BadMode) = true)
    (hd_BadMode : PySem.W.hasDictIn K f_BadMode = true)
    (ii_BadMode : PySem.W.findIn K (.ref f_BadMode) "__init__" = some (some (.ref i_BadMode)))
    (ti_BadMode : PySem.W.typeIn K (.ref i_BadMode) = some (.type "function"))
    (li_BadMode : K.lookup i_BadMode = some ⟨oc_BadMode, od_BadMode, .func (PySem.W.ksFn "__init__" "BadMode.__init__" (defArgs S_BadMode___init__) (defBody S_BadMode___init__) (defScope S_BadMode___init__) .none kV_BadMode dc_BadMode pm_BadMode an_BadMode (.ref cda_BadMode) ct_BadMode cc_BadMode), sl_BadMode⟩)
    (ci_BadMode : PySem.W.codeIn K (.ref cda_BadMode) "BadMode.__init__" = true)
    (lc_BadMode : K.lookup cda_BadMode = some ⟨ccl_BadMode, ccd_BadMode, .fields vs_BadMode, ccs_BadMode⟩)
    (v2_BadMode : vs_BadMode[2]? = some (.str fl_BadMode tf_BadMode))
    (fe_BadMode : ((PySem.Challenge.pw_lostpart_k34_standard_steps).main.file == fl_BadMode) = true)
    (lk_BadMode : K.lookup cc_BadMode = some ⟨cl_BadMode, cld_BadMode, .cell (some (.ref f_BadMode)), csl_BadMode⟩)
    (su_BadMode : PySem.W.ks_superIn K f_BadMode f_BadMode "__init__" = some (some (.builtin "ValueError.__init__")))
    (n_mode_BadMode : PySem.W.findIn K (.ref f_BadMode) "mode" = some none)
    (a_BadChoice : PySem.W.nsIn K mainGlobals "BadChoice" = some (some (.ref f_BadChoice)))
    (x_BadChoice : K.lookup f_BadChoice = some (excClassObj nm_BadChoice q_BadChoice f_BadChoice N_BadChoice bs_BadChoice bm_BadChoice true sn_BadChoice sub_BadChoice ab_BadChoice col_BadChoice dd_BadChoice m0_BadChoice m1_BadChoice m2_BadChoice m3_BadChoice m5_BadChoice "ValueError.__new__"))
    (rv_BadChoice : PySem.HandSPX.refsVE bm_BadChoice = true)
    (sa_BadChoice : PySem.W.findIn K (.ref f_BadChoice) "__setattr__" = some (some (.builtin "object.__setattr__")))
    (ga_BadChoice : PySem.W.findIn K (.ref f_BadChoice) "__getattribute__" = some (some (.builtin "BaseException.__getattribute__")))
    (gg_BadChoice : PySem.W.findIn K (.ref f_BadChoice) "__getattr__" = some none)
    (ha_BadChoice : PySem.W.findIn K (.ref f_BadChoice) "__class__" = some (some (.builtin "object.__class__")))
    (hm_BadChoice : PySem.W.mroIn K f_BadChoice (.type "object") = some true)
    (ms_BadChoice : PySem.W.mroIn K f_BadChoice (.ref f_BadChoice) = some true)
    (eC_BadChoice : PySem.W.subIn K (.ref f_BadChoice) (.type "BaseException") = some true)
    (sV_BadChoice : PySem.W.subIn K (.ref f_BadChoice) (.type "ValueError") = some true)
    (tC_BadChoice : PySem.W.typeIn K (.ref f_BadChoice) = some (.type "type"))
    (kC_BadChoice : PySem.W.keepIn K (.ref f_BadChoice) = true)
    (hd_BadChoice : PySem.W.hasDictIn K f_BadChoice = true)
    (ii_BadChoice : PySem.W.findIn K (.ref f_BadChoice) "__init__" = some (some (.ref i_BadChoice)))
    (ti_BadChoice : PySem.W.typeIn K (.ref i_BadChoice) = some (.type "function"))
    (li_BadChoice : K.lookup i_BadChoice = some ⟨oc_BadChoice, od_BadChoice, .func (PySem.W.ksFn "__init__" "BadChoice.__init__" (defArgs S_BadChoice___init__) (defBody S_BadChoice___init__) (defScope S_BadChoice___init__) .none kV_BadChoice dc_BadChoice pm_BadChoice an_BadChoice (.ref cda_BadChoice) ct_BadChoice cc_BadChoice), sl_BadChoice⟩)
    (ci_BadChoice : PySem.W.codeIn K (.ref cda_BadChoice) "BadChoice.__init__" = true)
    (lc_BadChoice : K.lookup cda_BadChoice = some ⟨ccl_BadChoice, ccd_BadChoice, .fields vs_BadChoice, ccs_BadChoice⟩)
    (v2_BadChoice : vs_BadChoice[2]? = some (.str fl_BadChoice tf_BadChoice))
    (fe_BadChoice : ((PySem.Challenge.pw_lostpart_k34_standard_steps).main.file == fl_BadChoice) = true)
    (lk_BadChoice : K.lookup cc_BadChoice = some ⟨cl_BadChoice, cld_BadChoice, .cell (some (.ref f_BadChoice)), csl_BadChoice⟩)
    (su_BadChoice : PySem.W.ks_superIn K f_BadChoice f_BadChoice "__init__" = some (some (.builtin "ValueError.__init__")))
    (n_what_BadChoice : PySem.W.findIn K (.ref f_BadChoice) "what" = some none)
    (a_BadStep : PySem.W.nsIn K mainGlobals "BadStep" = some (some (.ref f_BadStep)))
    (x_BadStep : K.lookup f_BadStep = some (excClassObj nm_BadStep q_BadStep f_BadStep N_BadStep bs_BadStep bm_BadStep true sn_BadStep sub_BadStep ab_BadStep col_BadStep dd_BadStep m0_BadStep m1_BadStep m2_BadStep m3_BadStep m5_BadStep "ValueError.__new__"))
    (rv_BadStep : PySem.HandSPX.refsVE bm_BadStep = true)
    (sa_BadStep : PySem.W.findIn K (.ref f_BadStep) "__setattr__" = some (some (.builtin "object.__setattr__")))
    (ga_BadStep : PySem.W.findIn K (.ref f_BadStep) "__getattribute__" = some (some (.builtin "BaseException.__getattribute__")))
    (gg_BadStep : PySem.W.findIn K (.ref f_BadStep) "__getattr__" = some none)
    (ha_BadStep : PySem.W.findIn K (.ref f_BadStep) "__class__" = some (some (.builtin "object.__class__")))
    (hm_BadStep : PySem.W.mroIn K f_BadStep (.type "object") = some true)
    (ms_BadStep : PySem.W.mroIn K f_BadStep (.ref f_BadStep) = some true)
    (eC_BadStep : PySem.W.subIn K (.ref f_BadStep) (.type "BaseException") = some true)
    (sV_BadStep : PySem.W.subIn K (.ref f_BadStep) (.type "ValueError") = some true)
    (tC_BadStep : PySem.W.typeIn K (.ref f_BadStep) = some (.type "type"))
    (kC_BadStep : PySem.W.keepIn K (.ref f_BadStep) = true)
    (hd_BadStep : PySem.W.hasDictIn K f_BadStep = true)
    (ii_BadStep : PySem.W.findIn K (.ref f_BadStep) "__init__" = some (some (.ref i_BadStep)))
    (ti_BadStep : PySem.W.typeIn K (.ref i_BadStep) = some (.type "function"))
    (li_BadStep : K.lookup i_BadStep = some ⟨oc_BadStep, od_BadStep, .func (PySem.W.ksFn "__init__" "BadStep.__init__" (defArgs S_BadStep___init__) (defBody S_BadStep___init__) (defScope S_BadStep___init__) .none kV_BadStep dc_BadStep pm_BadStep an_BadStep (.ref cda_BadStep) ct_BadStep cc_BadStep), sl_BadStep⟩)
    (ci_BadStep : PySem.W.codeIn K (.ref cda_BadStep) "BadStep.__init__" = true)
    (lc_BadStep : K.lookup cda_BadStep = some ⟨ccl_BadStep, ccd_BadStep, .fields vs_BadStep, ccs_BadStep⟩)
    (v2_BadStep : vs_BadStep[2]? = some (.str fl_BadStep tf_BadStep))
    (fe_BadStep : ((PySem.Challenge.pw_lostpart_k34_standard_steps).main.file == fl_BadStep) = true)
    (lk_BadStep : K.lookup cc_BadStep = some ⟨cl_BadStep, cld_BadStep, .cell (some (.ref f_BadStep)), csl_BadStep⟩)
    (su_BadStep : PySem.W.ks_superIn K f_BadStep f_BadStep "__init__" = some (some (.builtin "ValueError.__init__")))
    (n_number_BadStep : PySem.W.findIn K (.ref f_BadStep) "number" = some none)
    (n_part_BadStep : PySem.W.findIn K (.ref f_BadStep) "part" = some none)
    (z_iter : PySem.W.nsIn K mainGlobals "iter" = some none)
    (cs_Step : PySem.W.clsIn K f_Step = some cd_Step)
    (cm_Step : cd_Step.mro = [.ref f_Step, .type "object"])
    (sa_add : PySem.W.findIn K (.ref f_Step) "__add__" = some none)
    (sa_radd : PySem.W.findIn K (.ref f_Step) "__radd__" = some none)
    (so_add : PySem.W.findIn K (.type "object") "__add__" = some none)
    (so_radd : PySem.W.findIn K (.type "object") "__radd__" = some none)
    (ne_PS : f_Program ≠ f_Step)
    : ∃ fd : FuncData, (∀ (s : Shared) (v : Value), BindsTo s fd ⟨[v], []⟩ [("script", v)]) ∧ ∀ base : Heap, K.In base → base.Ns mainGlobals mg → FnOk PySem.Challenge.pw_lostpart_k34_standard_steps w K mg base (L2N.CX PySem.Challenge.pw_lostpart_k34_standard_steps w) 9 fa fd ["script"] (spLaw K) := by
  have e := hfa.symm.trans (PySem.W.mg_of X G a_law)
  cases e
  have g_Step := PySem.W.mg_of X G a_Step
  have Cl_Step : Cls K f_Step := ⟨pg_Step, hd_Step, po_Step, sa_Step⟩
  have I_Step : ClsI K f_Step := ⟨Cl_Step, ha_Step, x_hn, x_ht, hm_Step⟩
  have M_Step : L2.Mk K f_Step f_Step___init__ := ⟨mk_Step, ii_Step, fi_Step, kc_Step⟩
  have NB_Step : NotB K f_Step := .of nb_Step_int nb_Step_bool nb_Step_str nb_Step_list nb_Step_tuple nb_Step_NoneType
  have NI_Step : NotI K f_Step := ⟨fun T h => by rcases h with rfl | rfl | rfl | rfl | rfl | rfl <;> assumption⟩
  have Me_Step___eq__ : Meth K f_Step "__eq__" f_Step___eq__ := ⟨at___eq___Step, if___eq___Step, k_Step___eq__⟩
  have g_Program := PySem.W.mg_of X G a_Program
  have Cl_Program : Cls K f_Program := ⟨pg_Program, hd_Program, po_Program, sa_Program⟩
  have I_Program : ClsI K f_Program := ⟨Cl_Program, ha_Program, x_hn, x_ht, hm_Program⟩
  have M_Program : L2.Mk K f_Program f_Program___init__ := ⟨mk_Program, ii_Program, fi_Program, kc_Program⟩
  have Rd_Program : ClX.CRead K f_Program mc_Program := ⟨rd_Program, rg_Program⟩
  have Cv_Program_MOST : ClX.CVal K f_Program mc_Program "MOST" (.int 12) cu_Program_MOST := ⟨cv_MOST_Program, cr_MOST_Program⟩
  have NB_Program : NotB K f_Program := .of nb_Program_int nb_Program_bool nb_Program_str nb_Program_list nb_Program_tuple nb_Program_NoneType
  have NI_Program : NotI K f_Program := ⟨fun T h => by rcases h with rfl | rfl | rfl | rfl | rfl | rfl <;> assumption⟩
  have Me_Program___add__ : Meth K f_Program "__add__" f_Program___add__ := ⟨at___add___Program, if___add___Program, k_Program___add__⟩
  have Me_Program___iter__ : Meth K f_Program "__iter__" f_Program___iter__ := ⟨at___iter___Program, if___iter___Program, k_Program___iter__⟩
  have Me_Program___eq__ : Meth K f_Program "__eq__" f_Program___eq__ := ⟨at___eq___Program, if___eq___Program, k_Program___eq__⟩
  have Me_Program___len__ : Meth K f_Program "__len__" f_Program___len__ := ⟨at___len___Program, if___len___Program, k_Program___len__⟩
  have F_Step___init__ : FunD K "__init__" "Step.__init__" (defArgs S_Step___init__) (defBody S_Step___init__) (defScope S_Step___init__) [.str "nearest-even"] [] f_Step___init__ _ := ⟨⟨_, _, _, _, _, _, _, _, _, _, rfl, l_Step___init__, c_Step___init__, .inr ⟨by simp, T_Step___init__, _, itT_Step___init__.toList, _, rfl, lT_Step___init__, rfl, vT_Step___init__⟩, .inl rfl⟩, k_Step___init__⟩
  have b4_Step___init__ := FunD.binds1 (ps := ["self", "operation", "left", "right", "mode"]) F_Step___init__ 4 0 (by simp) rfl fun T kV doc pm an cdv ct us its hl hi => match us, hl, its, hi with | [_, _, _, _], _, [_], _ => ⟨_, rfl, rfl⟩
  have b5_Step___init__ := FunD.binds1 (ps := ["self", "operation", "left", "right", "mode"]) F_Step___init__ 5 1 (by simp) rfl fun T kV doc pm an cdv ct us its hl hi => match us, hl, its, hi with | [_, _, _, _, _], _, [_], _ => ⟨_, rfl, rfl⟩
  have b_Step___init__ := binds_all b5_Step___init__
  have F_Step___eq__ := fun_mk (st := S_Step___eq__) l_Step___eq__ c_Step___eq__ k_Step___eq__
  have b_Step___eq__ := F_Step___eq__.binds (ps := ["self", "other"]) fun _ _ _ _ _ _ us hl => match us, hl with | [_, _], _ => rfl
  have F_Program___init__ := fun_mk (st := S_Program___init__) l_Program___init__ c_Program___init__ k_Program___init__
  have F_Program___add__ := fun_mk (st := S_Program___add__) l_Program___add__ c_Program___add__ k_Program___add__
  have b_Program___add__ := F_Program___add__.binds (ps := ["self", "other"]) fun _ _ _ _ _ _ us hl => match us, hl with | [_, _], _ => rfl
  have F_Program___iter__ := fun_mk (st := S_Program___iter__) l_Program___iter__ c_Program___iter__ k_Program___iter__
  have b_Program___iter__ := F_Program___iter__.binds (ps := ["self"]) fun _ _ _ _ _ _ us hl => match us, hl with | [_], _ => rfl
  have F_Program___eq__ := fun_mk (st := S_Program___eq__) l_Program___eq__ c_Program___eq__ k_Program___eq__
  have b_Program___eq__ := F_Program___eq__.binds (ps := ["self", "other"]) fun _ _ _ _ _ _ us hl => match us, hl with | [_, _], _ => rfl
  have F_Program___len__ := fun_mk (st := S_Program___len__) l_Program___len__ c_Program___len__ k_Program___len__
  have b_Program___len__ := F_Program___len__.binds (ps := ["self"]) fun _ _ _ _ _ _ us hl => match us, hl with | [_], _ => rfl
  have F_check_mode := fun_mk (st := S_check_mode) l_check_mode c_check_mode k_check_mode
  have b_check_mode := F_check_mode.binds (ps := ["mode"]) fun _ _ _ _ _ _ us hl => match us, hl with | [_], _ => rfl
  have g_check_mode := PySem.W.mg_of X G a_check_mode
  have F_invalid_part := fun_mk (st := S_invalid_part) l_invalid_part c_invalid_part k_invalid_part
  have b_invalid_part := F_invalid_part.binds (ps := ["step", "number"]) fun _ _ _ _ _ _ us hl => match us, hl with | [_, _], _ => rfl
  have g_invalid_part := PySem.W.mg_of X G a_invalid_part
  have F_spread := fun_mk (st := S_spread) l_spread c_spread k_spread
  have b_spread := F_spread.binds (ps := ["modes", "many"]) fun _ _ _ _ _ _ us hl => match us, hl with | [_, _], _ => rfl
  have g_spread := PySem.W.mg_of X G a_spread
  have F_check_choices := fun_mk (st := S_check_choices) l_check_choices c_check_choices k_check_choices
  have b_check_choices := F_check_choices.binds (ps := ["first", "operation"]) fun _ _ _ _ _ _ us hl => match us, hl with | [_, _], _ => rfl
  have g_check_choices := PySem.W.mg_of X G a_check_choices
  have F_built := fun_mk (st := S_built) l_built c_built k_built
  have b_built := F_built.binds (ps := ["rows", "modes"]) fun _ _ _ _ _ _ us hl => match us, hl with | [_, _], _ => rfl
  have g_built := PySem.W.mg_of X G a_built
  have F_three : FunD K "three" "three" (defArgs S_three) (defBody S_three) (defScope S_three) [] [("first", .str "a"), ("operation", .str "+")] f_three _ := ⟨⟨_, _, _, _, _, _, _, _, _, _, rfl, l_three, c_three, .inl ⟨rfl, rfl⟩, .inr ⟨_, rfl, (by intro q hq; simp only [List.mem_cons, List.not_mem_nil, or_false] at hq; rcases hq with rfl | rfl; exact ⟨_, kd0_three, kr0_three⟩; exact ⟨_, kd1_three, kr1_three⟩)⟩⟩, k_three⟩
  have g_three := PySem.W.mg_of X G a_three
  have F_six : FunD K "six" "six" (defArgs S_six) (defBody S_six) (defScope S_six) [] [("first", .str "a"), ("operation", .str "+")] f_six _ := ⟨⟨_, _, _, _, _, _, _, _, _, _, rfl, l_six, c_six, .inl ⟨rfl, rfl⟩, .inr ⟨_, rfl, (by intro q hq; simp only [List.mem_cons, List.not_mem_nil, or_false] at hq; rcases hq with rfl | rfl; exact ⟨_, kd0_six, kr0_six⟩; exact ⟨_, kd1_six, kr1_six⟩)⟩⟩, k_six⟩
  have g_six := PySem.W.mg_of X G a_six
  have F__law_source := fun_mk (st := S__law_source) l__law_source c__law_source k__law_source
  have b__law_source := F__law_source.binds (ps := ["script"]) fun _ _ _ _ _ _ us hl => match us, hl with | [_], _ => rfl
  have g__law_source := PySem.W.mg_of X G a__law_source
  have F__law_draw := fun_mk (st := S__law_draw) l__law_draw c__law_draw k__law_draw
  have b__law_draw := F__law_draw.binds (ps := ["source", "many"]) fun _ _ _ _ _ _ us hl => match us, hl with | [_, _], _ => rfl
  have g__law_draw := PySem.W.mg_of X G a__law_draw
  have F__law_modes := fun_mk (st := S__law_modes) l__law_modes c__law_modes k__law_modes
  have b__law_modes := F__law_modes.binds (ps := []) fun _ _ _ _ _ _ us hl => match us, hl with | [], _ => rfl
  have g__law_modes := PySem.W.mg_of X G a__law_modes
  have F__law_mode := fun_mk (st := S__law_mode) l__law_mode c__law_mode k__law_mode
  have b__law_mode := F__law_mode.binds (ps := ["source"]) fun _ _ _ _ _ _ us hl => match us, hl with | [_], _ => rfl
  have g__law_mode := PySem.W.mg_of X G a__law_mode
  have F__law_equal := fun_mk (st := S__law_equal) l__law_equal c__law_equal k__law_equal
  have b__law_equal := F__law_equal.binds (ps := ["actual", "expected"]) fun _ _ _ _ _ _ us hl => match us, hl with | [_, _], _ => rfl
  have g__law_equal := PySem.W.mg_of X G a__law_equal
  have F__law_rows := fun_mk (st := S__law_rows) l__law_rows c__law_rows k__law_rows
  have b__law_rows := F__law_rows.binds (ps := ["kind", "first", "operation"]) fun _ _ _ _ _ _ us hl => match us, hl with | [_, _, _], _ => rfl
  have g__law_rows := PySem.W.mg_of X G a__law_rows
  have F__law_program := fun_mk (st := S__law_program) l__law_program c__law_program k__law_program
  have b__law_program := F__law_program.binds (ps := ["rows", "modes"]) fun _ _ _ _ _ _ us hl => match us, hl with | [_, _], _ => rfl
  have g__law_program := PySem.W.mg_of X G a__law_program
  have F__law_three := fun_mk (st := S__law_three) l__law_three c__law_three k__law_three
  have b__law_three := F__law_three.binds (ps := ["m", "way", "first", "operation"]) fun _ _ _ _ _ _ us hl => match us, hl with | [_, _, _, _], _ => rfl
  have g__law_three := PySem.W.mg_of X G a__law_three
  have F__law_six := fun_mk (st := S__law_six) l__law_six c__law_six k__law_six
  have b__law_six := F__law_six.binds (ps := ["m", "way", "first", "operation"]) fun _ _ _ _ _ _ us hl => match us, hl with | [_, _, _, _], _ => rfl
  have g__law_six := PySem.W.mg_of X G a__law_six
  have F__law_case := fun_mk (st := S__law_case) l__law_case c__law_case k__law_case
  have b__law_case := F__law_case.binds (ps := ["source"]) fun _ _ _ _ _ _ us hl => match us, hl with | [_], _ => rfl
  have g__law_case := PySem.W.mg_of X G a__law_case
  have F__law_right := fun_mk (st := S__law_right) l__law_right c__law_right k__law_right
  have b__law_right := F__law_right.binds (ps := ["case"]) fun _ _ _ _ _ _ us hl => match us, hl with | [_], _ => rfl
  have g__law_right := PySem.W.mg_of X G a__law_right
  have F_law := fun_mk (st := S_law) l_law c_law k_law
  have b_law := F_law.binds (ps := ["script"]) fun _ _ _ _ _ _ us hl => match us, hl with | [_], _ => rfl
  have g_law := PySem.W.mg_of X G a_law
  have g_MODES := PySem.W.mg_of X G a_MODES
  have g_THREE := PySem.W.mg_of X G a_THREE
  have g_SIX := PySem.W.mg_of X G a_SIX
  have T_MODES : ∀ H, SqT K H f_MODES (modes.map V.str) := fun H => .inr ⟨_, _, _, l_MODES, rfl, rfl, z_MODES, v_MODES⟩
  have T_THREE0 : ∀ H, SqT K H t_THREE0 [.ref t_THREE0_0, .ref t_THREE0_1, .ref t_THREE0_2] := fun H => .inr ⟨_, _, _, l_THREE0, rfl, rfl, z_THREE0, v_THREE0⟩
  have T_THREE0_0 : ∀ H, SqT K H t_THREE0_0 [.str "+", .int 0, .int 1] := fun H => .inr ⟨_, _, _, l_THREE0_0, rfl, rfl, z_THREE0_0, v_THREE0_0⟩
  have T_THREE0_1 : ∀ H, SqT K H t_THREE0_1 [.str "-", .int 2, .int 0] := fun H => .inr ⟨_, _, _, l_THREE0_1, rfl, rfl, z_THREE0_1, v_THREE0_1⟩
  have T_THREE0_2 : ∀ H, SqT K H t_THREE0_2 [.str "-", .int 1, .int 3] := fun H => .inr ⟨_, _, _, l_THREE0_2, rfl, rfl, z_THREE0_2, v_THREE0_2⟩
  have D_THREE0 : KDct K w f_THREE "+a" (.ref t_THREE0) := ⟨_, _, _, l_THREE, y_THREE, e_THREE0, rfl⟩
  have R_THREE0 : ∀ H, Rws K H [t_THREE0_0, t_THREE0_1, t_THREE0_2] [⟨"+", 0, 1⟩, ⟨"-", 2, 0⟩, ⟨"-", 1, 3⟩] := fun H => .cons (T_THREE0_0 H) (.cons (T_THREE0_1 H) (.cons (T_THREE0_2 H) (.nil)))
  have T_THREE1 : ∀ H, SqT K H t_THREE1 [.ref t_THREE1_0, .ref t_THREE1_1, .ref t_THREE1_2] := fun H => .inr ⟨_, _, _, l_THREE1, rfl, rfl, z_THREE1, v_THREE1⟩
  have T_THREE1_0 : ∀ H, SqT K H t_THREE1_0 [.str "+", .int 0, .int 1] := fun H => .inr ⟨_, _, _, l_THREE1_0, rfl, rfl, z_THREE1_0, v_THREE1_0⟩
  have T_THREE1_1 : ∀ H, SqT K H t_THREE1_1 [.str "-", .int 2, .int 1] := fun H => .inr ⟨_, _, _, l_THREE1_1, rfl, rfl, z_THREE1_1, v_THREE1_1⟩
  have T_THREE1_2 : ∀ H, SqT K H t_THREE1_2 [.str "-", .int 0, .int 3] := fun H => .inr ⟨_, _, _, l_THREE1_2, rfl, rfl, z_THREE1_2, v_THREE1_2⟩
  have D_THREE1 : KDct K w f_THREE "+b" (.ref t_THREE1) := ⟨_, _, _, l_THREE, y_THREE, e_THREE1, rfl⟩
  have R_THREE1 : ∀ H, Rws K H [t_THREE1_0, t_THREE1_1, t_THREE1_2] [⟨"+", 0, 1⟩, ⟨"-", 2, 1⟩, ⟨"-", 0, 3⟩] := fun H => .cons (T_THREE1_0 H) (.cons (T_THREE1_1 H) (.cons (T_THREE1_2 H) (.nil)))
  have T_THREE2 : ∀ H, SqT K H t_THREE2 [.ref t_THREE2_0, .ref t_THREE2_1, .ref t_THREE2_2] := fun H => .inr ⟨_, _, _, l_THREE2, rfl, rfl, z_THREE2, v_THREE2⟩
  have T_THREE2_0 : ∀ H, SqT K H t_THREE2_0 [.str "-", .int 0, .int 1] := fun H => .inr ⟨_, _, _, l_THREE2_0, rfl, rfl, z_THREE2_0, v_THREE2_0⟩
  have T_THREE2_1 : ∀ H, SqT K H t_THREE2_1 [.str "-", .int 0, .int 2] := fun H => .inr ⟨_, _, _, l_THREE2_1, rfl, rfl, z_THREE2_1, v_THREE2_1⟩
  have T_THREE2_2 : ∀ H, SqT K H t_THREE2_2 [.str "-", .int 3, .int 1] := fun H => .inr ⟨_, _, _, l_THREE2_2, rfl, rfl, z_THREE2_2, v_THREE2_2⟩
  have D_THREE2 : KDct K w f_THREE "-a" (.ref t_THREE2) := ⟨_, _, _, l_THREE, y_THREE, e_THREE2, rfl⟩
  have R_THREE2 : ∀ H, Rws K H [t_THREE2_0, t_THREE2_1, t_THREE2_2] [⟨"-", 0, 1⟩, ⟨"-", 0, 2⟩, ⟨"-", 3, 1⟩] := fun H => .cons (T_THREE2_0 H) (.cons (T_THREE2_1 H) (.cons (T_THREE2_2 H) (.nil)))
  have T_THREE3 : ∀ H, SqT K H t_THREE3 [.ref t_THREE3_0, .ref t_THREE3_1, .ref t_THREE3_2] := fun H => .inr ⟨_, _, _, l_THREE3, rfl, rfl, z_THREE3, v_THREE3⟩
  have T_THREE3_0 : ∀ H, SqT K H t_THREE3_0 [.str "-", .int 0, .int 1] := fun H => .inr ⟨_, _, _, l_THREE3_0, rfl, rfl, z_THREE3_0, v_THREE3_0⟩
  have T_THREE3_1 : ∀ H, SqT K H t_THREE3_1 [.str "+", .int 2, .int 1] := fun H => .inr ⟨_, _, _, l_THREE3_1, rfl, rfl, z_THREE3_1, v_THREE3_1⟩
  have T_THREE3_2 : ∀ H, SqT K H t_THREE3_2 [.str "-", .int 0, .int 3] := fun H => .inr ⟨_, _, _, l_THREE3_2, rfl, rfl, z_THREE3_2, v_THREE3_2⟩
  have D_THREE3 : KDct K w f_THREE "-b" (.ref t_THREE3) := ⟨_, _, _, l_THREE, y_THREE, e_THREE3, rfl⟩
  have R_THREE3 : ∀ H, Rws K H [t_THREE3_0, t_THREE3_1, t_THREE3_2] [⟨"-", 0, 1⟩, ⟨"+", 2, 1⟩, ⟨"-", 0, 3⟩] := fun H => .cons (T_THREE3_0 H) (.cons (T_THREE3_1 H) (.cons (T_THREE3_2 H) (.nil)))
  have T_SIX0 : ∀ H, SqT K H t_SIX0 [.ref t_SIX0_0, .ref t_SIX0_1, .ref t_SIX0_2, .ref t_SIX0_3, .ref t_SIX0_4, .ref t_SIX0_5] := fun H => .inr ⟨_, _, _, l_SIX0, rfl, rfl, z_SIX0, v_SIX0⟩
  have T_SIX0_0 : ∀ H, SqT K H t_SIX0_0 [.str "+", .int 0, .int 1] := fun H => .inr ⟨_, _, _, l_SIX0_0, rfl, rfl, z_SIX0_0, v_SIX0_0⟩
  have T_SIX0_1 : ∀ H, SqT K H t_SIX0_1 [.str "-", .int 2, .int 1] := fun H => .inr ⟨_, _, _, l_SIX0_1, rfl, rfl, z_SIX0_1, v_SIX0_1⟩
  have T_SIX0_2 : ∀ H, SqT K H t_SIX0_2 [.str "-", .int 2, .int 3] := fun H => .inr ⟨_, _, _, l_SIX0_2, rfl, rfl, z_SIX0_2, v_SIX0_2⟩
  have T_SIX0_3 : ∀ H, SqT K H t_SIX0_3 [.str "-", .int 0, .int 3] := fun H => .inr ⟨_, _, _, l_SIX0_3, rfl, rfl, z_SIX0_3, v_SIX0_3⟩
  have T_SIX0_4 : ∀ H, SqT K H t_SIX0_4 [.str "-", .int 1, .int 4] := fun H => .inr ⟨_, _, _, l_SIX0_4, rfl, rfl, z_SIX0_4, v_SIX0_4⟩
  have T_SIX0_5 : ∀ H, SqT K H t_SIX0_5 [.str "+", .int 5, .int 6] := fun H => .inr ⟨_, _, _, l_SIX0_5, rfl, rfl, z_SIX0_5, v_SIX0_5⟩
  have D_SIX0 : KDct K w f_SIX "+a" (.ref t_SIX0) := ⟨_, _, _, l_SIX, y_SIX, e_SIX0, rfl⟩
  have R_SIX0 : ∀ H, Rws K H [t_SIX0_0, t_SIX0_1, t_SIX0_2, t_SIX0_3, t_SIX0_4, t_SIX0_5] [⟨"+", 0, 1⟩, ⟨"-", 2, 1⟩, ⟨"-", 2, 3⟩, ⟨"-", 0, 3⟩, ⟨"-", 1, 4⟩, ⟨"+", 5, 6⟩] := fun H => .cons (T_SIX0_0 H) (.cons (T_SIX0_1 H) (.cons (T_SIX0_2 H) (.cons (T_SIX0_3 H) (.cons (T_SIX0_4 H) (.cons (T_SIX0_5 H) (.nil))))))
  have T_SIX1 : ∀ H, SqT K H t_SIX1 [.ref t_SIX1_0, .ref t_SIX1_1, .ref t_SIX1_2, .ref t_SIX1_3, .ref t_SIX1_4, .ref t_SIX1_5] := fun H => .inr ⟨_, _, _, l_SIX1, rfl, rfl, z_SIX1, v_SIX1⟩
  have T_SIX1_0 : ∀ H, SqT K H t_SIX1_0 [.str "+", .int 0, .int 1] := fun H => .inr ⟨_, _, _, l_SIX1_0, rfl, rfl, z_SIX1_0, v_SIX1_0⟩
  have T_SIX1_1 : ∀ H, SqT K H t_SIX1_1 [.str "-", .int 2, .int 0] := fun H => .inr ⟨_, _, _, l_SIX1_1, rfl, rfl, z_SIX1_1, v_SIX1_1⟩
  have T_SIX1_2 : ∀ H, SqT K H t_SIX1_2 [.str "-", .int 2, .int 3] := fun H => .inr ⟨_, _, _, l_SIX1_2, rfl, rfl, z_SIX1_2, v_SIX1_2⟩
  have T_SIX1_3 : ∀ H, SqT K H t_SIX1_3 [.str "-", .int 1, .int 3] := fun H => .inr ⟨_, _, _, l_SIX1_3, rfl, rfl, z_SIX1_3, v_SIX1_3⟩
  have T_SIX1_4 : ∀ H, SqT K H t_SIX1_4 [.str "-", .int 0, .int 4] := fun H => .inr ⟨_, _, _, l_SIX1_4, rfl, rfl, z_SIX1_4, v_SIX1_4⟩
  have T_SIX1_5 : ∀ H, SqT K H t_SIX1_5 [.str "+", .int 5, .int 6] := fun H => .inr ⟨_, _, _, l_SIX1_5, rfl, rfl, z_SIX1_5, v_SIX1_5⟩
  have D_SIX1 : KDct K w f_SIX "+b" (.ref t_SIX1) := ⟨_, _, _, l_SIX, y_SIX, e_SIX1, rfl⟩
  have R_SIX1 : ∀ H, Rws K H [t_SIX1_0, t_SIX1_1, t_SIX1_2, t_SIX1_3, t_SIX1_4, t_SIX1_5] [⟨"+", 0, 1⟩, ⟨"-", 2, 0⟩, ⟨"-", 2, 3⟩, ⟨"-", 1, 3⟩, ⟨"-", 0, 4⟩, ⟨"+", 5, 6⟩] := fun H => .cons (T_SIX1_0 H) (.cons (T_SIX1_1 H) (.cons (T_SIX1_2 H) (.cons (T_SIX1_3 H) (.cons (T_SIX1_4 H) (.cons (T_SIX1_5 H) (.nil))))))
  have T_SIX2 : ∀ H, SqT K H t_SIX2 [.ref t_SIX2_0, .ref t_SIX2_1, .ref t_SIX2_2, .ref t_SIX2_3, .ref t_SIX2_4, .ref t_SIX2_5] := fun H => .inr ⟨_, _, _, l_SIX2, rfl, rfl, z_SIX2, v_SIX2⟩
  have T_SIX2_0 : ∀ H, SqT K H t_SIX2_0 [.str "-", .int 0, .int 1] := fun H => .inr ⟨_, _, _, l_SIX2_0, rfl, rfl, z_SIX2_0, v_SIX2_0⟩
  have T_SIX2_1 : ∀ H, SqT K H t_SIX2_1 [.str "+", .int 2, .int 1] := fun H => .inr ⟨_, _, _, l_SIX2_1, rfl, rfl, z_SIX2_1, v_SIX2_1⟩
  have T_SIX2_2 : ∀ H, SqT K H t_SIX2_2 [.str "-", .int 3, .int 2] := fun H => .inr ⟨_, _, _, l_SIX2_2, rfl, rfl, z_SIX2_2, v_SIX2_2⟩
  have T_SIX2_3 : ∀ H, SqT K H t_SIX2_3 [.str "-", .int 0, .int 3] := fun H => .inr ⟨_, _, _, l_SIX2_3, rfl, rfl, z_SIX2_3, v_SIX2_3⟩
  have T_SIX2_4 : ∀ H, SqT K H t_SIX2_4 [.str "-", .int 4, .int 1] := fun H => .inr ⟨_, _, _, l_SIX2_4, rfl, rfl, z_SIX2_4, v_SIX2_4⟩
  have T_SIX2_5 : ∀ H, SqT K H t_SIX2_5 [.str "+", .int 5, .int 6] := fun H => .inr ⟨_, _, _, l_SIX2_5, rfl, rfl, z_SIX2_5, v_SIX2_5⟩
  have D_SIX2 : KDct K w f_SIX "-a" (.ref t_SIX2) := ⟨_, _, _, l_SIX, y_SIX, e_SIX2, rfl⟩
  have R_SIX2 : ∀ H, Rws K H [t_SIX2_0, t_SIX2_1, t_SIX2_2, t_SIX2_3, t_SIX2_4, t_SIX2_5] [⟨"-", 0, 1⟩, ⟨"+", 2, 1⟩, ⟨"-", 3, 2⟩, ⟨"-", 0, 3⟩, ⟨"-", 4, 1⟩, ⟨"+", 5, 6⟩] := fun H => .cons (T_SIX2_0 H) (.cons (T_SIX2_1 H) (.cons (T_SIX2_2 H) (.cons (T_SIX2_3 H) (.cons (T_SIX2_4 H) (.cons (T_SIX2_5 H) (.nil))))))
  have T_SIX3 : ∀ H, SqT K H t_SIX3 [.ref t_SIX3_0, .ref t_SIX3_1, .ref t_SIX3_2, .ref t_SIX3_3, .ref t_SIX3_4, .ref t_SIX3_5] := fun H => .inr ⟨_, _, _, l_SIX3, rfl, rfl, z_SIX3, v_SIX3⟩
  have T_SIX3_0 : ∀ H, SqT K H t_SIX3_0 [.str "-", .int 0, .int 1] := fun H => .inr ⟨_, _, _, l_SIX3_0, rfl, rfl, z_SIX3_0, v_SIX3_0⟩
  have T_SIX3_1 : ∀ H, SqT K H t_SIX3_1 [.str "-", .int 0, .int 2] := fun H => .inr ⟨_, _, _, l_SIX3_1, rfl, rfl, z_SIX3_1, v_SIX3_1⟩
  have T_SIX3_2 : ∀ H, SqT K H t_SIX3_2 [.str "+", .int 2, .int 3] := fun H => .inr ⟨_, _, _, l_SIX3_2, rfl, rfl, z_SIX3_2, v_SIX3_2⟩
  have T_SIX3_3 : ∀ H, SqT K H t_SIX3_3 [.str "-", .int 3, .int 1] := fun H => .inr ⟨_, _, _, l_SIX3_3, rfl, rfl, z_SIX3_3, v_SIX3_3⟩
  have T_SIX3_4 : ∀ H, SqT K H t_SIX3_4 [.str "-", .int 0, .int 4] := fun H => .inr ⟨_, _, _, l_SIX3_4, rfl, rfl, z_SIX3_4, v_SIX3_4⟩
  have T_SIX3_5 : ∀ H, SqT K H t_SIX3_5 [.str "+", .int 5, .int 6] := fun H => .inr ⟨_, _, _, l_SIX3_5, rfl, rfl, z_SIX3_5, v_SIX3_5⟩
  have D_SIX3 : KDct K w f_SIX "-b" (.ref t_SIX3) := ⟨_, _, _, l_SIX, y_SIX, e_SIX3, rfl⟩
  have R_SIX3 : ∀ H, Rws K H [t_SIX3_0, t_SIX3_1, t_SIX3_2, t_SIX3_3, t_SIX3_4, t_SIX3_5] [⟨"-", 0, 1⟩, ⟨"-", 0, 2⟩, ⟨"+", 2, 3⟩, ⟨"-", 3, 1⟩, ⟨"-", 0, 4⟩, ⟨"+", 5, 6⟩] := fun H => .cons (T_SIX3_0 H) (.cons (T_SIX3_1 H) (.cons (T_SIX3_2 H) (.cons (T_SIX3_3 H) (.cons (T_SIX3_4 H) (.cons (T_SIX3_5 H) (.nil))))))
  have B : Blt mg := ⟨PySem.W.mg_none_of X G z_len, PySem.W.mg_none_of X G z_int, PySem.W.mg_none_of X G z_abs, PySem.W.mg_none_of X G z_isi, PySem.W.mg_none_of X G z_range, PySem.W.mg_none_of X G z_boo, PySem.W.mg_none_of X G z_str, PySem.W.mg_none_of X G z_lst, PySem.W.mg_none_of X G z_tup, PySem.W.mg_none_of X G z_max, PySem.W.mg_none_of X G z_min, PySem.W.mg_none_of X G z_zip, PySem.W.mg_none_of X G z_srt, PySem.W.mg_none_of X G z_rev, PySem.W.mg_none_of X G z_dm, PySem.W.mg_none_of X G z_enu, PySem.W.mg_none_of X G z_sum, PySem.W.mg_none_of X G z_ve⟩
  have T_BadCount : PySem.LX.ExcT K f_BadCount := ⟨⟨⟨_, _, _, _, _, _, _, _, _, _, _, _, _, _, _, x_BadCount, rv_BadCount⟩, sa_BadCount, eC_BadCount, tC_BadCount, kC_BadCount⟩, ga_BadCount, gg_BadCount, hd_BadCount, ha_BadCount, x_hn, x_ht, hm_BadCount⟩
  have I_BadCount : PySem.LX.InitT PySem.Challenge.pw_lostpart_k34_standard_steps K mg f_BadCount i_BadCount "BadCount.__init__" (defArgs S_BadCount___init__) (defBody S_BadCount___init__) (defScope S_BadCount___init__) := ⟨ii_BadCount, ti_BadCount, ⟨_, _, _, _, _, _, _, _, _, _, li_BadCount, ci_BadCount, ⟨_, _, _, _, _, _, lc_BadCount, v2_BadCount, fe_BadCount⟩, ⟨_, _, _, lk_BadCount⟩⟩, su_BadCount, ms_BadCount, sV_BadCount, x_op, PySem.W.mg_none_of X G x_su, by decide +kernel⟩
  have R_BadCount : PySem.LX.InitRuns PySem.Challenge.pw_lostpart_k34_standard_steps K mg f_BadCount i_BadCount ["count"] := PySem.LX.init1 T_BadCount I_BadCount (fun _ => rfl) ⟨rfl, rfl, rfl, rfl, rfl, by decide +kernel, by decide +kernel⟩ (fun _ _ _ _ _ _ _ us hl => match us, hl with | [_, _], _ => rfl) rfl rfl (by decide) (by decide) n_count_BadCount (fun _ => rfl)
  have E_BadCount : XCls PySem.Challenge.pw_lostpart_k34_standard_steps K mg "BadCount" f_BadCount ["count"] := ⟨T_BadCount, PySem.W.mg_of X G a_BadCount, _, ii_BadCount, ti_BadCount, R_BadCount⟩
  have T_BadMode : PySem.LX.ExcT K f_BadMode := ⟨⟨⟨_, _, _, _, _, _, _, _, _, _, _, _, _, _, _, x_BadMode, rv_BadMode⟩, sa_BadMode, eC_BadMode, tC_BadMode, kC_BadMode⟩, ga_BadMode, gg_BadMode, hd_BadMode, ha_BadMode, x_hn, x_ht, hm_BadMode⟩
  have I_BadMode : PySem.LX.InitT PySem.Challenge.pw_lostpart_k34_standard_steps K mg f_BadMode i_BadMode "BadMode.__init__" (defArgs S_BadMode___init__) (defBody S_BadMode___init__) (defScope S_BadMode___init__) := ⟨ii_BadMode, ti_BadMode, ⟨_, _, _, _, _, _, _, _, _, _, li_BadMode, ci_BadMode, ⟨_, _, _, _, _, _, lc_BadMode, v2_BadMode, fe_BadMode⟩, ⟨_, _, _, lk_BadMode⟩⟩, su_BadMode, ms_BadMode, sV_BadMode, x_op, PySem.W.mg_none_of X G x_su, by decide +kernel⟩
  have R_BadMode : PySem.LX.InitRuns PySem.Challenge.pw_lostpart_k34_standard_steps K mg f_BadMode i_BadMode ["mode"] := PySem.LX.init1 T_BadMode I_BadMode (fun _ => rfl) ⟨rfl, rfl, rfl, rfl, rfl, by decide +kernel, by decide +kernel⟩ (fun _ _ _ _ _ _ _ us hl => match us, hl with | [_, _], _ => rfl) rfl rfl (by decide) (by decide) n_mode_BadMode (fun _ => rfl)
  have E_BadMode : XCls PySem.Challenge.pw_lostpart_k34_standard_steps K mg "BadMode" f_BadMode ["mode"] := ⟨T_BadMode, PySem.W.mg_of X G a_BadMode, _, ii_BadMode, ti_BadMode, R_BadMode⟩
  have T_BadChoice : PySem.LX.ExcT K f_BadChoice := ⟨⟨⟨_, _, _, _, _, _, _, _, _, _, _, _, _, _, _, x_BadChoice, rv_BadChoice⟩, sa_BadChoice, eC_BadChoice, tC_BadChoice, kC_BadChoice⟩, ga_BadChoice, gg_BadChoice, hd_BadChoice, ha_BadChoice, x_hn, x_ht, hm_BadChoice⟩
  have I_BadChoice : PySem.LX.InitT PySem.Challenge.pw_lostpart_k34_standard_steps K mg f_BadChoice i_BadChoice "BadChoice.__init__" (defArgs S_BadChoice___init__) (defBody S_BadChoice___init__) (defScope S_BadChoice___init__) := ⟨ii_BadChoice, ti_BadChoice, ⟨_, _, _, _, _, _, _, _, _, _, li_BadChoice, ci_BadChoice, ⟨_, _, _, _, _, _, lc_BadChoice, v2_BadChoice, fe_BadChoice⟩, ⟨_, _, _, lk_BadChoice⟩⟩, su_BadChoice, ms_BadChoice, sV_BadChoice, x_op, PySem.W.mg_none_of X G x_su, by decide +kernel⟩
  have R_BadChoice : PySem.LX.InitRuns PySem.Challenge.pw_lostpart_k34_standard_steps K mg f_BadChoice i_BadChoice ["what"] := PySem.LX.init1 T_BadChoice I_BadChoice (fun _ => rfl) ⟨rfl, rfl, rfl, rfl, rfl, by decide +kernel, by decide +kernel⟩ (fun _ _ _ _ _ _ _ us hl => match us, hl with | [_, _], _ => rfl) rfl rfl (by decide) (by decide) n_what_BadChoice (fun _ => rfl)
  have E_BadChoice : XCls PySem.Challenge.pw_lostpart_k34_standard_steps K mg "BadChoice" f_BadChoice ["what"] := ⟨T_BadChoice, PySem.W.mg_of X G a_BadChoice, _, ii_BadChoice, ti_BadChoice, R_BadChoice⟩
  have T_BadStep : PySem.LX.ExcT K f_BadStep := ⟨⟨⟨_, _, _, _, _, _, _, _, _, _, _, _, _, _, _, x_BadStep, rv_BadStep⟩, sa_BadStep, eC_BadStep, tC_BadStep, kC_BadStep⟩, ga_BadStep, gg_BadStep, hd_BadStep, ha_BadStep, x_hn, x_ht, hm_BadStep⟩
  have I_BadStep : PySem.LX.InitT PySem.Challenge.pw_lostpart_k34_standard_steps K mg f_BadStep i_BadStep "BadStep.__init__" (defArgs S_BadStep___init__) (defBody S_BadStep___init__) (defScope S_BadStep___init__) := ⟨ii_BadStep, ti_BadStep, ⟨_, _, _, _, _, _, _, _, _, _, li_BadStep, ci_BadStep, ⟨_, _, _, _, _, _, lc_BadStep, v2_BadStep, fe_BadStep⟩, ⟨_, _, _, lk_BadStep⟩⟩, su_BadStep, ms_BadStep, sV_BadStep, x_op, PySem.W.mg_none_of X G x_su, by decide +kernel⟩
  have R_BadStep : PySem.LX.InitRuns PySem.Challenge.pw_lostpart_k34_standard_steps K mg f_BadStep i_BadStep ["number", "part"] := PySem.LX.init2 T_BadStep I_BadStep (fun _ => rfl) ⟨rfl, rfl, rfl, rfl, rfl, by decide +kernel, by decide +kernel⟩ (fun _ _ _ _ _ _ _ us hl => match us, hl with | [_, _, _], _ => rfl) rfl rfl (by decide) (by decide) (by decide) (by decide) (by decide) n_number_BadStep n_part_BadStep (fun _ => rfl) (fun _ => rfl)
  have E_BadStep : XCls PySem.Challenge.pw_lostpart_k34_standard_steps K mg "BadStep" f_BadStep ["number", "part"] := ⟨T_BadStep, PySem.W.mg_of X G a_BadStep, _, ii_BadStep, ti_BadStep, R_BadStep⟩
  refine ⟨PySem.W.fnOf "law" "law" (defArgs S_law) (defBody S_law) (defScope S_law) .none kV_law dc_law pm_law an_law cd_law ct_law, fun s v => .of_eq rfl, fun base _ _ => ?_⟩
  have C_src := Cal.of (ok_source (P := PySem.Challenge.pw_lostpart_k34_standard_steps) (w := w) (base := base) F__law_source B) g__law_source k__law_source b__law_source
  have C_draw := Cal.of (ok_draw (P := PySem.Challenge.pw_lostpart_k34_standard_steps) (w := w) (base := base) F__law_draw B) g__law_draw k__law_draw b__law_draw
  have C_eq := Cal.of (ok_equal (P := PySem.Challenge.pw_lostpart_k34_standard_steps) (w := w) (base := base) F__law_equal B g__law_equal k__law_equal b__law_equal 2) g__law_equal k__law_equal b__law_equal
  have C_modes := Cal.of (ok_modes (P := PySem.Challenge.pw_lostpart_k34_standard_steps) (w := w) (base := base) F__law_modes) g__law_modes k__law_modes b__law_modes
  have C_mode := Cal.of (ok_mode F__law_mode C_draw C_modes) g__law_mode k__law_mode b__law_mode
  have ST : StTxt K mg f_Step := ⟨I_Step, g_Step, n_operation_Step, n_left_Step, n_right_Step, n_mode_Step⟩
  have PT : PrTxt K mg f_Program := ⟨I_Program, g_Program, n_steps_Program, _, Rd_Program, ⟨_, Cv_Program_MOST⟩⟩
  have C_Step := step_cal M_Step b_Step___init__ b4_Step___init__ g_Step (ok_sini (P := PySem.Challenge.pw_lostpart_k34_standard_steps) (w := w) (base := base) F_Step___init__ ST)
  have C_inv := Cal.of (ok_inv (P := PySem.Challenge.pw_lostpart_k34_standard_steps) (w := w) (base := base) F_invalid_part ST g_MODES T_MODES) g_invalid_part k_invalid_part b_invalid_part
  have C_Prog := prog_cal M_Program g_Program (ok_pini F_Program___init__ B PT C_inv E_BadCount E_BadStep)
  have O_add := CalM.of Me_Program___add__ (ok_padd F_Program___add__ PT C_Prog) b_Program___add__
  have O_it := it_own (P := PySem.Challenge.pw_lostpart_k34_standard_steps) (w := w) (base := base) F_Program___iter__ PT (PySem.W.mg_none_of X G z_iter) Me_Program___iter__ b_Program___iter__
  have O_seq := CalM.of Me_Step___eq__ (ok_seq (P := PySem.Challenge.pw_lostpart_k34_standard_steps) (w := w) (base := base) F_Step___eq__ B ST ⟨NI_Step.no⟩) b_Step___eq__
  have O_peq := CalM.of Me_Program___eq__ (ok_peq F_Program___eq__ B PT ⟨NI_Program.no⟩ O_seq) b_Program___eq__
  have NO : NoOp K f_Step (Operator.info .Add).2 := ⟨⟨_, cs_Step, cm_Step⟩, sa_add, sa_radd, so_add, so_radd⟩
  have C_chk := Cal.of (ok_check (P := PySem.Challenge.pw_lostpart_k34_standard_steps) (w := w) (base := base) F_check_mode g_MODES T_MODES E_BadMode) g_check_mode k_check_mode b_check_mode
  have C_spr := Cal.of (ok_spread F_spread B C_chk E_BadCount) g_spread k_spread b_spread
  have C_cho := Cal.of (ok_choice (P := PySem.Challenge.pw_lostpart_k34_standard_steps) (w := w) (base := base) F_check_choices E_BadChoice) g_check_choices k_check_choices b_check_choices
  have C_bui := Cal.of (ok_built F_built B C_Step C_Prog) g_built k_built b_built
  have D3 : DcT K mg w "THREE" 3 := .of g_THREE ⟨_, [t_THREE0_0, t_THREE0_1, t_THREE0_2], D_THREE0, T_THREE0, fun H => by rw [r3pa]; exact R_THREE0 H⟩ ⟨_, [t_THREE1_0, t_THREE1_1, t_THREE1_2], D_THREE1, T_THREE1, fun H => by rw [r3pb]; exact R_THREE1 H⟩ ⟨_, [t_THREE2_0, t_THREE2_1, t_THREE2_2], D_THREE2, T_THREE2, fun H => by rw [r3ma]; exact R_THREE2 H⟩ ⟨_, [t_THREE3_0, t_THREE3_1, t_THREE3_2], D_THREE3, T_THREE3, fun H => by rw [r3mb]; exact R_THREE3 H⟩
  have D6 : DcT K mg w "SIX" 6 := .of g_SIX ⟨_, [t_SIX0_0, t_SIX0_1, t_SIX0_2, t_SIX0_3, t_SIX0_4, t_SIX0_5], D_SIX0, T_SIX0, fun H => by rw [r6pa]; exact R_SIX0 H⟩ ⟨_, [t_SIX1_0, t_SIX1_1, t_SIX1_2, t_SIX1_3, t_SIX1_4, t_SIX1_5], D_SIX1, T_SIX1, fun H => by rw [r6pb]; exact R_SIX1 H⟩ ⟨_, [t_SIX2_0, t_SIX2_1, t_SIX2_2, t_SIX2_3, t_SIX2_4, t_SIX2_5], D_SIX2, T_SIX2, fun H => by rw [r6ma]; exact R_SIX2 H⟩ ⟨_, [t_SIX3_0, t_SIX3_1, t_SIX3_2, t_SIX3_3, t_SIX3_4, t_SIX3_5], D_SIX3, T_SIX3, fun H => by rw [r6mb]; exact R_SIX3 H⟩
  have A3 : Calls PySem.Challenge.pw_lostpart_k34_standard_steps w K mg base "three" 3 f_Program f_Step f_BadCount f_BadMode f_BadChoice := ⟨k2_three F_three g_three B D3 C_spr C_cho C_bui, kr_three F_three g_three B D3 C_spr C_cho C_bui, k1_three F_three g_three B D3 C_spr C_cho C_bui, ko_three F_three g_three B D3 C_spr C_cho C_bui, k0_three F_three g_three B D3 C_spr C_cho C_bui⟩
  have A6 : Calls PySem.Challenge.pw_lostpart_k34_standard_steps w K mg base "six" 6 f_Program f_Step f_BadCount f_BadMode f_BadChoice := ⟨k2_six F_six g_six B D6 C_spr C_cho C_bui, kr_six F_six g_six B D6 C_spr C_cho C_bui, k1_six F_six g_six B D6 C_spr C_cho C_bui, ko_six F_six g_six B D6 C_spr C_cho C_bui, k0_six F_six g_six B D6 C_spr C_cho C_bui⟩
  have O_len := CalM.of Me_Program___len__ (ok_plen (P := PySem.Challenge.pw_lostpart_k34_standard_steps) (w := w) (base := base) (CS := f_Step) F_Program___len__ B PT) b_Program___len__
  have C_rows := Cal.of (ok_rows (P := PySem.Challenge.pw_lostpart_k34_standard_steps) (w := w) (base := base) F__law_rows) g__law_rows k__law_rows b__law_rows
  have C_lprog := Cal.of (ok_lprog F__law_program C_Prog C_Step O_add sf_Program NO ne_PS B) g__law_program k__law_program b__law_program
  have C_l3 := Cal.of (ok_lthree F__law_three B A3) g__law_three k__law_three b__law_three
  have C_l6 := Cal.of (ok_lsix F__law_six B A6) g__law_six k__law_six b__law_six
  have C_case := Cal.of (ok_case F__law_case B C_draw C_mode C_rows) g__law_case k__law_case b__law_case
  have C_rt := Cal.of (ok_rt F__law_right B PT ST O_it O_len O_peq C_rows C_l3 C_l6 C_lprog C_eq) g__law_right k__law_right b__law_right
  exact ok_law F_law B C_src C_case C_rt
end Law
open PySem PySem.W PyProof.Rows
set_option maxRecDepth 100000 in
set_option maxHeartbeats 0 in
theorem PySem.Challenge.cw_lostpart_k34_standard_steps_holds : PySem.Challenge.rw_lostpart_k34_standard_steps.Holds := by
  w_on; o_law; k_head; (case hw => w_witness2)
  k_fill
  refine L2.walk_of (l := PySem.Challenge.rw_lostpart_k34_standard_steps) (n := 63) (k := 9) (x := "script") (CX := fun w => L2N.CX PySem.Challenge.pw_lostpart_k34_standard_steps w) (sp := fun w => L2.spLaw _) rfl (by decide) rfl ⟨rfl, by decide, by decide⟩ (fun w h Y => PySem.W.kIn_of Y) ?F (fun _ _ a ns hl _ hS => ⟨a, ns, rfl, hS, hl, fun _ => rfl⟩) (fun _ _ _ _ _ z => L2.cxn_no (fun _ _ _ z => z) z)
  case F =>
    intro w mg fa h KX G hmg
    refine' Law.all_mk KX G hmg ?a_Step ?pg_Step ?hd_Step ?po_Step ?sa_Step ?ha_Step ?hm_Step ?kc_Step ?mk_Step ?ii_Step ?fi_Step ?nb_Step_int ?ni_Step_int ?nb_Step_bool ?ni_Step_bool ?nb_Step_str ?ni_Step_str ?nb_Step_list ?ni_Step_list ?nb_Step_tuple ?ni_Step_tuple ?nb_Step_NoneType ?ni_Step_NoneType ?hne_Step ?n_operation_Step ?n_left_Step ?n_right_Step ?n_mode_Step ?at___eq___Step ?if___eq___Step ?a_Program ?pg_Program ?hd_Program ?po_Program ?sa_Program ?ha_Program ?hm_Program ?kc_Program ?mk_Program ?ii_Program ?fi_Program ?ty_Program ?rd_Program ?rg_Program ?cv_MOST_Program ?cr_MOST_Program ?nb_Program_int ?ni_Program_int ?nb_Program_bool ?ni_Program_bool ?nb_Program_str ?ni_Program_str ?nb_Program_list ?ni_Program_list ?nb_Program_tuple ?ni_Program_tuple ?nb_Program_NoneType ?ni_Program_NoneType ?hne_Program ?n_steps_Program ?at___add___Program ?if___add___Program ?at___iter___Program ?if___iter___Program ?at___eq___Program ?if___eq___Program ?at___len___Program ?if___len___Program ?sf_Program ?su_Program ?l_Step___init__ ?c_Step___init__ ?k_Step___init__ ?lT_Step___init__ ?vT_Step___init__ ?l_Step___eq__ ?c_Step___eq__ ?k_Step___eq__ ?l_Program___init__ ?c_Program___init__ ?k_Program___init__ ?l_Program___add__ ?c_Program___add__ ?k_Program___add__ ?l_Program___iter__ ?c_Program___iter__ ?k_Program___iter__ ?l_Program___eq__ ?c_Program___eq__ ?k_Program___eq__ ?l_Program___len__ ?c_Program___len__ ?k_Program___len__ ?a_check_mode ?l_check_mode ?c_check_mode ?k_check_mode ?a_invalid_part ?l_invalid_part ?c_invalid_part ?k_invalid_part ?a_spread ?l_spread ?c_spread ?k_spread ?a_check_choices ?l_check_choices ?c_check_choices ?k_check_choices ?a_built ?l_built ?c_built ?k_built ?a_three ?l_three ?kd0_three ?kr0_three ?kd1_three ?kr1_three ?c_three ?k_three ?a_six ?l_six ?kd0_six ?kr0_six ?kd1_six ?kr1_six ?c_six ?k_six ?a__law_source ?l__law_source ?c__law_source ?k__law_source ?a__law_draw ?l__law_draw ?c__law_draw ?k__law_draw ?a__law_modes ?l__law_modes ?c__law_modes ?k__law_modes ?a__law_mode ?l__law_mode ?c__law_mode ?k__law_mode ?a__law_equal ?l__law_equal ?c__law_equal ?k__law_equal ?a__law_rows ?l__law_rows ?c__law_rows ?k__law_rows ?a__law_program ?l__law_program ?c__law_program ?k__law_program ?a__law_three ?l__law_three ?c__law_three ?k__law_three ?a__law_six ?l__law_six ?c__law_six ?k__law_six ?a__law_case ?l__law_case ?c__law_case ?k__law_case ?a__law_right ?l__law_right ?c__law_right ?k__law_right ?a_law ?l_law ?c_law ?k_law ?a_MODES ?a_THREE ?a_SIX ?l_MODES ?z_MODES ?v_MODES ?l_THREE ?y_THREE ?e_THREE0 ?l_THREE0 ?z_THREE0 ?v_THREE0 ?l_THREE0_0 ?z_THREE0_0 ?v_THREE0_0 ?l_THREE0_1 ?z_THREE0_1 ?v_THREE0_1 ?l_THREE0_2 ?z_THREE0_2 ?v_THREE0_2 ?e_THREE1 ?l_THREE1 ?z_THREE1 ?v_THREE1 ?l_THREE1_0 ?z_THREE1_0 ?v_THREE1_0 ?l_THREE1_1 ?z_THREE1_1 ?v_THREE1_1 ?l_THREE1_2 ?z_THREE1_2 ?v_THREE1_2 ?e_THREE2 ?l_THREE2 ?z_THREE2 ?v_THREE2 ?l_THREE2_0 ?z_THREE2_0 ?v_THREE2_0 ?l_THREE2_1 ?z_THREE2_1 ?v_THREE2_1 ?l_THREE2_2 ?z_THREE2_2 ?v_THREE2_2 ?e_THREE3 ?l_THREE3 ?z_THREE3 ?v_THREE3 ?l_THREE3_0 ?z_THREE3_0 ?v_THREE3_0 ?l_THREE3_1 ?z_THREE3_1 ?v_THREE3_1 ?l_THREE3_2 ?z_THREE3_2 ?v_THREE3_2 ?l_SIX ?y_SIX ?e_SIX0 ?l_SIX0 ?z_SIX0 ?v_SIX0 ?l_SIX0_0 ?z_SIX0_0 ?v_SIX0_0 ?l_SIX0_1 ?z_SIX0_1 ?v_SIX0_1 ?l_SIX0_2 ?z_SIX0_2 ?v_SIX0_2 ?l_SIX0_3 ?z_SIX0_3 ?v_SIX0_3 ?l_SIX0_4 ?z_SIX0_4 ?v_SIX0_4 ?l_SIX0_5 ?z_SIX0_5 ?v_SIX0_5 ?e_SIX1 ?l_SIX1 ?z_SIX1 ?v_SIX1 ?l_SIX1_0 ?z_SIX1_0 ?v_SIX1_0 ?l_SIX1_1 ?z_SIX1_1 ?v_SIX1_1 ?l_SIX1_2 ?z_SIX1_2 ?v_SIX1_2 ?l_SIX1_3 ?z_SIX1_3 ?v_SIX1_3 ?l_SIX1_4 ?z_SIX1_4 ?v_SIX1_4 ?l_SIX1_5 ?z_SIX1_5 ?v_SIX1_5 ?e_SIX2 ?l_SIX2 ?z_SIX2 ?v_SIX2 ?l_SIX2_0 ?z_SIX2_0 ?v_SIX2_0 ?l_SIX2_1 ?z_SIX2_1 ?v_SIX2_1 ?l_SIX2_2 ?z_SIX2_2 ?v_SIX2_2 ?l_SIX2_3 ?z_SIX2_3 ?v_SIX2_3 ?l_SIX2_4 ?z_SIX2_4 ?v_SIX2_4 ?l_SIX2_5 ?z_SIX2_5 ?v_SIX2_5 ?e_SIX3 ?l_SIX3 ?z_SIX3 ?v_SIX3 ?l_SIX3_0 ?z_SIX3_0 ?v_SIX3_0 ?l_SIX3_1 ?z_SIX3_1 ?v_SIX3_1 ?l_SIX3_2 ?z_SIX3_2 ?v_SIX3_2 ?l_SIX3_3 ?z_SIX3_3 ?v_SIX3_3 ?l_SIX3_4 ?z_SIX3_4 ?v_SIX3_4 ?l_SIX3_5 ?z_SIX3_5 ?v_SIX3_5 ?z_len ?z_int ?z_abs ?z_isi ?z_range ?z_boo ?z_str ?z_lst ?z_tup ?z_max ?z_min ?z_zip ?z_srt ?z_rev ?z_dm ?z_enu ?z_sum ?z_ve ?x_hn ?x_ht ?x_op ?x_su ?a_BadCount ?x_BadCount ?rv_BadCount ?sa_BadCount ?ga_BadCount ?gg_BadCount ?ha_BadCount ?hm_BadCount ?ms_BadCount ?eC_BadCount ?sV_BadCount ?tC_BadCount ?kC_BadCount ?hd_BadCount ?ii_BadCount ?ti_BadCount ?li_BadCount ?ci_BadCount ?lc_BadCount ?v2_BadCount ?fe_BadCount ?lk_BadCount ?su_BadCount ?n_count_BadCount ?a_BadMode ?x_BadMode ?rv_BadMode ?sa_BadMode ?ga_BadMode ?gg_BadMode ?ha_BadMode ?hm_BadMode ?ms_BadMode ?eC_BadMode ?sV_BadMode ?tC_BadMode ?kC_BadMode ?hd_BadMode ?ii_BadMode ?ti_BadMode ?li_BadMode ?ci_BadMode ?lc_BadMode ?v2_BadMode ?fe_BadMode ?lk_BadMode ?su_BadMode ?n_mode_BadMode ?a_BadChoice ?x_BadChoice ?rv_BadChoice ?sa_BadChoice ?ga_BadChoice ?gg_BadChoice ?ha_BadChoice ?hm_BadChoice ?ms_BadChoice ?eC_BadChoice ?sV_BadChoice ?tC_BadChoice ?kC_BadChoice ?hd_BadChoice ?ii_BadChoice ?ti_BadChoice ?li_BadChoice ?ci_BadChoice ?lc_BadChoice ?v2_BadChoice ?fe_BadChoice ?lk_BadChoice ?su_BadChoice ?n_what_BadChoice ?a_BadStep ?x_BadStep ?rv_BadStep ?sa_BadStep ?ga_BadStep ?gg_BadStep ?ha_BadStep ?hm_BadStep ?ms_BadStep ?eC_BadStep ?sV_BadStep ?tC_BadStep ?kC_BadStep ?hd_BadStep ?ii_BadStep ?ti_BadStep ?li_BadStep ?ci_BadStep ?lc_BadStep ?v2_BadStep ?fe_BadStep ?lk_BadStep ?su_BadStep ?n_number_BadStep ?n_part_BadStep ?z_iter ?cs_Step ?cm_Step ?sa_add ?sa_radd ?so_add ?so_radd ?ne_PS
    (case a_Step => k_is)
    (case pg_Step => k_is)
    (case hd_Step => k_is)
    (case po_Step => k_is)
    (case sa_Step => k_is)
    (case ha_Step => k_is)
    (case hm_Step => k_is)
    (case kc_Step => k_is)
    (case mk_Step => k_is)
    (case ii_Step => k_is)
    (case fi_Step => k_is)
    (case nb_Step_int => k_is)
    (case ni_Step_int => kit_is)
    (case nb_Step_bool => k_is)
    (case ni_Step_bool => kit_is)
    (case nb_Step_str => k_is)
    (case ni_Step_str => kit_is)
    (case nb_Step_list => k_is)
    (case ni_Step_list => kit_is)
    (case nb_Step_tuple => k_is)
    (case ni_Step_tuple => kit_is)
    (case nb_Step_NoneType => k_is)
    (case ni_Step_NoneType => kit_is)
    (case hne_Step => k_is)
    (case n_operation_Step => k_is)
    (case n_left_Step => k_is)
    (case n_right_Step => k_is)
    (case n_mode_Step => k_is)
    (case at___eq___Step => k_is)
    (case if___eq___Step => k_is)
    (case a_Program => k_is)
    (case pg_Program => k_is)
    (case hd_Program => k_is)
    (case po_Program => k_is)
    (case sa_Program => k_is)
    (case ha_Program => k_is)
    (case hm_Program => k_is)
    (case kc_Program => k_is)
    (case mk_Program => k_is)
    (case ii_Program => k_is)
    (case fi_Program => k_is)
    (case ty_Program => k_is)
    (case rd_Program => k_is)
    (case rg_Program => k_is)
    (case cv_MOST_Program => k_is)
    (case cr_MOST_Program => first | exact rfl | exact ⟨_, rfl⟩)
    (case nb_Program_int => k_is)
    (case ni_Program_int => kit_is)
    (case nb_Program_bool => k_is)
    (case ni_Program_bool => kit_is)
    (case nb_Program_str => k_is)
    (case ni_Program_str => kit_is)
    (case nb_Program_list => k_is)
    (case ni_Program_list => kit_is)
    (case nb_Program_tuple => k_is)
    (case ni_Program_tuple => kit_is)
    (case nb_Program_NoneType => k_is)
    (case ni_Program_NoneType => kit_is)
    (case hne_Program => k_is)
    (case n_steps_Program => k_is)
    (case at___add___Program => k_is)
    (case if___add___Program => k_is)
    (case at___iter___Program => k_is)
    (case if___iter___Program => k_is)
    (case at___eq___Program => k_is)
    (case if___eq___Program => k_is)
    (case at___len___Program => k_is)
    (case if___len___Program => k_is)
    (case sf_Program => k_is)
    (case su_Program => k_is)
    (case l_Step___init__ => k_is)
    (case c_Step___init__ => k_is)
    (case k_Step___init__ => k_is)
    (case lT_Step___init__ => k_is)
    (case vT_Step___init__ => repeat (first | exact .nil | refine .cons (by first | exact ⟨_, rfl⟩ | rfl) ?_))
    (case l_Step___eq__ => k_is)
    (case c_Step___eq__ => k_is)
    (case k_Step___eq__ => k_is)
    (case l_Program___init__ => k_is)
    (case c_Program___init__ => k_is)
    (case k_Program___init__ => k_is)
    (case l_Program___add__ => k_is)
    (case c_Program___add__ => k_is)
    (case k_Program___add__ => k_is)
    (case l_Program___iter__ => k_is)
    (case c_Program___iter__ => k_is)
    (case k_Program___iter__ => k_is)
    (case l_Program___eq__ => k_is)
    (case c_Program___eq__ => k_is)
    (case k_Program___eq__ => k_is)
    (case l_Program___len__ => k_is)
    (case c_Program___len__ => k_is)
    (case k_Program___len__ => k_is)
    (case a_check_mode => k_is)
    (case l_check_mode => k_is)
    (case c_check_mode => k_is)
    (case k_check_mode => k_is)
    (case a_invalid_part => k_is)
    (case l_invalid_part => k_is)
    (case c_invalid_part => k_is)
    (case k_invalid_part => k_is)
    (case a_spread => k_is)
    (case l_spread => k_is)
    (case c_spread => k_is)
    (case k_spread => k_is)
    (case a_check_choices => k_is)
    (case l_check_choices => k_is)
    (case c_check_choices => k_is)
    (case k_check_choices => k_is)
    (case a_built => k_is)
    (case l_built => k_is)
    (case c_built => k_is)
    (case k_built => k_is)
    (case a_three => k_is)
    (case l_three => k_is)
    (case kd0_three => k_is)
    (case kr0_three => first | exact rfl | exact ⟨_, rfl⟩)
    (case kd1_three => k_is)
    (case kr1_three => first | exact rfl | exact ⟨_, rfl⟩)
    (case c_three => k_is)
    (case k_three => k_is)
    (case a_six => k_is)
    (case l_six => k_is)
    (case kd0_six => k_is)
    (case kr0_six => first | exact rfl | exact ⟨_, rfl⟩)
    (case kd1_six => k_is)
    (case kr1_six => first | exact rfl | exact ⟨_, rfl⟩)
    (case c_six => k_is)
    (case k_six => k_is)
    (case a__law_source => k_is)
    (case l__law_source => k_is)
    (case c__law_source => k_is)
    (case k__law_source => k_is)
    (case a__law_draw => k_is)
    (case l__law_draw => k_is)
    (case c__law_draw => k_is)
    (case k__law_draw => k_is)
    (case a__law_modes => k_is)
    (case l__law_modes => k_is)
    (case c__law_modes => k_is)
    (case k__law_modes => k_is)
    (case a__law_mode => k_is)
    (case l__law_mode => k_is)
    (case c__law_mode => k_is)
    (case k__law_mode => k_is)
    (case a__law_equal => k_is)
    (case l__law_equal => k_is)
    (case c__law_equal => k_is)
    (case k__law_equal => k_is)
    (case a__law_rows => k_is)
    (case l__law_rows => k_is)
    (case c__law_rows => k_is)
    (case k__law_rows => k_is)
    (case a__law_program => k_is)
    (case l__law_program => k_is)
    (case c__law_program => k_is)
    (case k__law_program => k_is)
    (case a__law_three => k_is)
    (case l__law_three => k_is)
    (case c__law_three => k_is)
    (case k__law_three => k_is)
    (case a__law_six => k_is)
    (case l__law_six => k_is)
    (case c__law_six => k_is)
    (case k__law_six => k_is)
    (case a__law_case => k_is)
    (case l__law_case => k_is)
    (case c__law_case => k_is)
    (case k__law_case => k_is)
    (case a__law_right => k_is)
    (case l__law_right => k_is)
    (case c__law_right => k_is)
    (case k__law_right => k_is)
    (case a_law => k_is)
    (case l_law => k_is)
    (case c_law => k_is)
    (case k_law => k_is)
    (case a_MODES => k_is)
    (case a_THREE => k_is)
    (case a_SIX => k_is)
    (case l_MODES => k_is)
    (case z_MODES => exact Nat.le_of_ble_eq_true rfl)
    (case v_MODES => repeat (first | exact .nil | refine .cons ⟨_, rfl⟩ ?_))
    (case l_THREE => k_is)
    (case y_THREE => repeat (first | exact trivial | refine ⟨⟨_, _, rfl, rfl⟩, ?_⟩))
    (case e_THREE0 => k_is)
    (case l_THREE0 => k_is)
    (case z_THREE0 => exact Nat.le_of_ble_eq_true rfl)
    (case v_THREE0 => repeat (first | exact .nil | refine .cons rfl ?_ | refine .cons ⟨_, rfl⟩ ?_))
    (case l_THREE0_0 => k_is)
    (case z_THREE0_0 => exact Nat.le_of_ble_eq_true rfl)
    (case v_THREE0_0 => repeat (first | exact .nil | refine .cons rfl ?_ | refine .cons ⟨_, rfl⟩ ?_))
    (case l_THREE0_1 => k_is)
    (case z_THREE0_1 => exact Nat.le_of_ble_eq_true rfl)
    (case v_THREE0_1 => repeat (first | exact .nil | refine .cons rfl ?_ | refine .cons ⟨_, rfl⟩ ?_))
    (case l_THREE0_2 => k_is)
    (case z_THREE0_2 => exact Nat.le_of_ble_eq_true rfl)
    (case v_THREE0_2 => repeat (first | exact .nil | refine .cons rfl ?_ | refine .cons ⟨_, rfl⟩ ?_))
    (case e_THREE1 => k_is)
    (case l_THREE1 => k_is)
    (case z_THREE1 => exact Nat.le_of_ble_eq_true rfl)
    (case v_THREE1 => repeat (first | exact .nil | refine .cons rfl ?_ | refine .cons ⟨_, rfl⟩ ?_))
    (case l_THREE1_0 => k_is)
    (case z_THREE1_0 => exact Nat.le_of_ble_eq_true rfl)
    (case v_THREE1_0 => repeat (first | exact .nil | refine .cons rfl ?_ | refine .cons ⟨_, rfl⟩ ?_))
    (case l_THREE1_1 => k_is)
    (case z_THREE1_1 => exact Nat.le_of_ble_eq_true rfl)
    (case v_THREE1_1 => repeat (first | exact .nil | refine .cons rfl ?_ | refine .cons ⟨_, rfl⟩ ?_))
    (case l_THREE1_2 => k_is)
    (case z_THREE1_2 => exact Nat.le_of_ble_eq_true rfl)
    (case v_THREE1_2 => repeat (first | exact .nil | refine .cons rfl ?_ | refine .cons ⟨_, rfl⟩ ?_))
    (case e_THREE2 => k_is)
    (case l_THREE2 => k_is)
    (case z_THREE2 => exact Nat.le_of_ble_eq_true rfl)
    (case v_THREE2 => repeat (first | exact .nil | refine .cons rfl ?_ | refine .cons ⟨_, rfl⟩ ?_))
    (case l_THREE2_0 => k_is)
    (case z_THREE2_0 => exact Nat.le_of_ble_eq_true rfl)
    (case v_THREE2_0 => repeat (first | exact .nil | refine .cons rfl ?_ | refine .cons ⟨_, rfl⟩ ?_))
    (case l_THREE2_1 => k_is)
    (case z_THREE2_1 => exact Nat.le_of_ble_eq_true rfl)
    (case v_THREE2_1 => repeat (first | exact .nil | refine .cons rfl ?_ | refine .cons ⟨_, rfl⟩ ?_))
    (case l_THREE2_2 => k_is)
    (case z_THREE2_2 => exact Nat.le_of_ble_eq_true rfl)
    (case v_THREE2_2 => repeat (first | exact .nil | refine .cons rfl ?_ | refine .cons ⟨_, rfl⟩ ?_))
    (case e_THREE3 => k_is)
    (case l_THREE3 => k_is)
    (case z_THREE3 => exact Nat.le_of_ble_eq_true rfl)
    (case v_THREE3 => repeat (first | exact .nil | refine .cons rfl ?_ | refine .cons ⟨_, rfl⟩ ?_))
    (case l_THREE3_0 => k_is)
    (case z_THREE3_0 => exact Nat.le_of_ble_eq_true rfl)
    (case v_THREE3_0 => repeat (first | exact .nil | refine .cons rfl ?_ | refine .cons ⟨_, rfl⟩ ?_))
    (case l_THREE3_1 => k_is)
    (case z_THREE3_1 => exact Nat.le_of_ble_eq_true rfl)
    (case v_THREE3_1 => repeat (first | exact .nil | refine .cons rfl ?_ | refine .cons ⟨_, rfl⟩ ?_))
    (case l_THREE3_2 => k_is)
    (case z_THREE3_2 => exact Nat.le_of_ble_eq_true rfl)
    (case v_THREE3_2 => repeat (first | exact .nil | refine .cons rfl ?_ | refine .cons ⟨_, rfl⟩ ?_))
    (case l_SIX => k_is)
    (case y_SIX => repeat (first | exact trivial | refine ⟨⟨_, _, rfl, rfl⟩, ?_⟩))
    (case e_SIX0 => k_is)
    (case l_SIX0 => k_is)
    (case z_SIX0 => exact Nat.le_of_ble_eq_true rfl)
    (case v_SIX0 => repeat (first | exact .nil | refine .cons rfl ?_ | refine .cons ⟨_, rfl⟩ ?_))
    (case l_SIX0_0 => k_is)
    (case z_SIX0_0 => exact Nat.le_of_ble_eq_true rfl)
    (case v_SIX0_0 => repeat (first | exact .nil | refine .cons rfl ?_ | refine .cons ⟨_, rfl⟩ ?_))
    (case l_SIX0_1 => k_is)
    (case z_SIX0_1 => exact Nat.le_of_ble_eq_true rfl)
    (case v_SIX0_1 => repeat (first | exact .nil | refine .cons rfl ?_ | refine .cons ⟨_, rfl⟩ ?_))
    (case l_SIX0_2 => k_is)
    (case z_SIX0_2 => exact Nat.le_of_ble_eq_true rfl)
    (case v_SIX0_2 => repeat (first | exact .nil | refine .cons rfl ?_ | refine .cons ⟨_, rfl⟩ ?_))
    (case l_SIX0_3 => k_is)
    (case z_SIX0_3 => exact Nat.le_of_ble_eq_true rfl)
    (case v_SIX0_3 => repeat (first | exact .nil | refine .cons rfl ?_ | refine .cons ⟨_, rfl⟩ ?_))
    (case l_SIX0_4 => k_is)
    (case z_SIX0_4 => exact Nat.le_of_ble_eq_true rfl)
    (case v_SIX0_4 => repeat (first | exact .nil | refine .cons rfl ?_ | refine .cons ⟨_, rfl⟩ ?_))
    (case l_SIX0_5 => k_is)
    (case z_SIX0_5 => exact Nat.le_of_ble_eq_true rfl)
    (case v_SIX0_5 => repeat (first | exact .nil | refine .cons rfl ?_ | refine .cons ⟨_, rfl⟩ ?_))
    (case e_SIX1 => k_is)
    (case l_SIX1 => k_is)
    (case z_SIX1 => exact Nat.le_of_ble_eq_true rfl)
    (case v_SIX1 => repeat (first | exact .nil | refine .cons rfl ?_ | refine .cons ⟨_, rfl⟩ ?_))
    (case l_SIX1_0 => k_is)
    (case z_SIX1_0 => exact Nat.le_of_ble_eq_true rfl)
    (case v_SIX1_0 => repeat (first | exact .nil | refine .cons rfl ?_ | refine .cons ⟨_, rfl⟩ ?_))
    (case l_SIX1_1 => k_is)
    (case z_SIX1_1 => exact Nat.le_of_ble_eq_true rfl)
    (case v_SIX1_1 => repeat (first | exact .nil | refine .cons rfl ?_ | refine .cons ⟨_, rfl⟩ ?_))
    (case l_SIX1_2 => k_is)
    (case z_SIX1_2 => exact Nat.le_of_ble_eq_true rfl)
    (case v_SIX1_2 => repeat (first | exact .nil | refine .cons rfl ?_ | refine .cons ⟨_, rfl⟩ ?_))
    (case l_SIX1_3 => k_is)
    (case z_SIX1_3 => exact Nat.le_of_ble_eq_true rfl)
    (case v_SIX1_3 => repeat (first | exact .nil | refine .cons rfl ?_ | refine .cons ⟨_, rfl⟩ ?_))
    (case l_SIX1_4 => k_is)
    (case z_SIX1_4 => exact Nat.le_of_ble_eq_true rfl)
    (case v_SIX1_4 => repeat (first | exact .nil | refine .cons rfl ?_ | refine .cons ⟨_, rfl⟩ ?_))
    (case l_SIX1_5 => k_is)
    (case z_SIX1_5 => exact Nat.le_of_ble_eq_true rfl)
    (case v_SIX1_5 => repeat (first | exact .nil | refine .cons rfl ?_ | refine .cons ⟨_, rfl⟩ ?_))
    (case e_SIX2 => k_is)
    (case l_SIX2 => k_is)
    (case z_SIX2 => exact Nat.le_of_ble_eq_true rfl)
    (case v_SIX2 => repeat (first | exact .nil | refine .cons rfl ?_ | refine .cons ⟨_, rfl⟩ ?_))
    (case l_SIX2_0 => k_is)
    (case z_SIX2_0 => exact Nat.le_of_ble_eq_true rfl)
    (case v_SIX2_0 => repeat (first | exact .nil | refine .cons rfl ?_ | refine .cons ⟨_, rfl⟩ ?_))
    (case l_SIX2_1 => k_is)
    (case z_SIX2_1 => exact Nat.le_of_ble_eq_true rfl)
    (case v_SIX2_1 => repeat (first | exact .nil | refine .cons rfl ?_ | refine .cons ⟨_, rfl⟩ ?_))
    (case l_SIX2_2 => k_is)
    (case z_SIX2_2 => exact Nat.le_of_ble_eq_true rfl)
    (case v_SIX2_2 => repeat (first | exact .nil | refine .cons rfl ?_ | refine .cons ⟨_, rfl⟩ ?_))
    (case l_SIX2_3 => k_is)
    (case z_SIX2_3 => exact Nat.le_of_ble_eq_true rfl)
    (case v_SIX2_3 => repeat (first | exact .nil | refine .cons rfl ?_ | refine .cons ⟨_, rfl⟩ ?_))
    (case l_SIX2_4 => k_is)
    (case z_SIX2_4 => exact Nat.le_of_ble_eq_true rfl)
    (case v_SIX2_4 => repeat (first | exact .nil | refine .cons rfl ?_ | refine .cons ⟨_, rfl⟩ ?_))
    (case l_SIX2_5 => k_is)
    (case z_SIX2_5 => exact Nat.le_of_ble_eq_true rfl)
    (case v_SIX2_5 => repeat (first | exact .nil | refine .cons rfl ?_ | refine .cons ⟨_, rfl⟩ ?_))
    (case e_SIX3 => k_is)
    (case l_SIX3 => k_is)
    (case z_SIX3 => exact Nat.le_of_ble_eq_true rfl)
    (case v_SIX3 => repeat (first | exact .nil | refine .cons rfl ?_ | refine .cons ⟨_, rfl⟩ ?_))
    (case l_SIX3_0 => k_is)
    (case z_SIX3_0 => exact Nat.le_of_ble_eq_true rfl)
    (case v_SIX3_0 => repeat (first | exact .nil | refine .cons rfl ?_ | refine .cons ⟨_, rfl⟩ ?_))
    (case l_SIX3_1 => k_is)
    (case z_SIX3_1 => exact Nat.le_of_ble_eq_true rfl)
    (case v_SIX3_1 => repeat (first | exact .nil | refine .cons rfl ?_ | refine .cons ⟨_, rfl⟩ ?_))
    (case l_SIX3_2 => k_is)
    (case z_SIX3_2 => exact Nat.le_of_ble_eq_true rfl)
    (case v_SIX3_2 => repeat (first | exact .nil | refine .cons rfl ?_ | refine .cons ⟨_, rfl⟩ ?_))
    (case l_SIX3_3 => k_is)
    (case z_SIX3_3 => exact Nat.le_of_ble_eq_true rfl)
    (case v_SIX3_3 => repeat (first | exact .nil | refine .cons rfl ?_ | refine .cons ⟨_, rfl⟩ ?_))
    (case l_SIX3_4 => k_is)
    (case z_SIX3_4 => exact Nat.le_of_ble_eq_true rfl)
    (case v_SIX3_4 => repeat (first | exact .nil | refine .cons rfl ?_ | refine .cons ⟨_, rfl⟩ ?_))
    (case l_SIX3_5 => k_is)
    (case z_SIX3_5 => exact Nat.le_of_ble_eq_true rfl)
    (case v_SIX3_5 => repeat (first | exact .nil | refine .cons rfl ?_ | refine .cons ⟨_, rfl⟩ ?_))
    (case z_len => k_is)
    (case z_int => k_is)
    (case z_abs => k_is)
    (case z_isi => k_is)
    (case z_range => k_is)
    (case z_boo => k_is)
    (case z_str => k_is)
    (case z_lst => k_is)
    (case z_tup => k_is)
    (case z_max => k_is)
    (case z_min => k_is)
    (case z_zip => k_is)
    (case z_srt => k_is)
    (case z_rev => k_is)
    (case z_dm => k_is)
    (case z_enu => k_is)
    (case z_sum => k_is)
    (case z_ve => k_is)
    (case x_hn => k_is)
    (case x_ht => k_is)
    (case x_op => k_is)
    (case x_su => k_is)
    (case a_BadCount => k_is)
    (case x_BadCount => k_is)
    (case rv_BadCount => decide +kernel)
    (case sa_BadCount => k_is)
    (case ga_BadCount => k_is)
    (case gg_BadCount => k_is)
    (case ha_BadCount => k_is)
    (case hm_BadCount => k_is)
    (case ms_BadCount => k_is)
    (case eC_BadCount => k_is)
    (case sV_BadCount => k_is)
    (case tC_BadCount => k_is)
    (case kC_BadCount => k_is)
    (case hd_BadCount => k_is)
    (case ii_BadCount => k_is)
    (case ti_BadCount => k_is)
    (case li_BadCount => k_is)
    (case ci_BadCount => k_is)
    (case lc_BadCount => k_is)
    (case v2_BadCount => rfl)
    (case fe_BadCount => decide +kernel)
    (case lk_BadCount => k_is)
    (case su_BadCount => ks_is)
    (case n_count_BadCount => k_is)
    (case a_BadMode => k_is)
    (case x_BadMode => k_is)
    (case rv_BadMode => decide +kernel)
    (case sa_BadMode => k_is)
    (case ga_BadMode => k_is)
    (case gg_BadMode => k_is)
    (case ha_BadMode => k_is)
    (case hm_BadMode => k_is)
    (case ms_BadMode => k_is)
    (case eC_BadMode => k_is)
    (case sV_BadMode => k_is)
    (case tC_BadMode => k_is)
    (case kC_BadMode => k_is)
    (case hd_BadMode => k_is)
    (case ii_BadMode => k_is)
    (case ti_BadMode => k_is)
    (case li_BadMode => k_is)
    (case ci_BadMode => k_is)
    (case lc_BadMode => k_is)
    (case v2_BadMode => rfl)
    (case fe_BadMode => decide +kernel)
    (case lk_BadMode => k_is)
    (case su_BadMode => ks_is)
    (case n_mode_BadMode => k_is)
    (case a_BadChoice => k_is)
    (case x_BadChoice => k_is)
    (case rv_BadChoice => decide +kernel)
    (case sa_BadChoice => k_is)
    (case ga_BadChoice => k_is)
    (case gg_BadChoice => k_is)
    (case ha_BadChoice => k_is)
    (case hm_BadChoice => k_is)
    (case ms_BadChoice => k_is)
    (case eC_BadChoice => k_is)
    (case sV_BadChoice => k_is)
    (case tC_BadChoice => k_is)
    (case kC_BadChoice => k_is)
    (case hd_BadChoice => k_is)
    (case ii_BadChoice => k_is)
    (case ti_BadChoice => k_is)
    (case li_BadChoice => k_is)
    (case ci_BadChoice => k_is)
    (case lc_BadChoice => k_is)
    (case v2_BadChoice => rfl)
    (case fe_BadChoice => decide +kernel)
    (case lk_BadChoice => k_is)
    (case su_BadChoice => ks_is)
    (case n_what_BadChoice => k_is)
    (case a_BadStep => k_is)
    (case x_BadStep => k_is)
    (case rv_BadStep => decide +kernel)
    (case sa_BadStep => k_is)
    (case ga_BadStep => k_is)
    (case gg_BadStep => k_is)
    (case ha_BadStep => k_is)
    (case hm_BadStep => k_is)
    (case ms_BadStep => k_is)
    (case eC_BadStep => k_is)
    (case sV_BadStep => k_is)
    (case tC_BadStep => k_is)
    (case kC_BadStep => k_is)
    (case hd_BadStep => k_is)
    (case ii_BadStep => k_is)
    (case ti_BadStep => k_is)
    (case li_BadStep => k_is)
    (case ci_BadStep => k_is)
    (case lc_BadStep => k_is)
    (case v2_BadStep => rfl)
    (case fe_BadStep => decide +kernel)
    (case lk_BadStep => k_is)
    (case su_BadStep => ks_is)
    (case n_number_BadStep => k_is)
    (case n_part_BadStep => k_is)
    (case z_iter => k_is)
    (case cs_Step => k_is)
    (case cm_Step => rfl)
    (case sa_add => k_is)
    (case sa_radd => k_is)
    (case so_add => k_is)
    (case so_radd => k_is)
    (case ne_PS => decide)
