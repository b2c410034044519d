import PyProof.Rows.All
import Wide.All
import OpenK.AllK
import Wide.FinOn
import HandS.Lambda
import HandS.ExcInit
import HandS.ExcIs
import HandS.ExcField
import HandS.ExcValue
import KE.KExcSuper
import KE.KExcIs
import HandS.ForMost
import HandS.ForExc
import HandS.Zip
import HandS.Iter
import HandS.HeadHook4
import HandS.EndBits
import HandS.Strs
import HandS.Wide
import HandS.Flow
import HandS.Conv
import HandS.Deep
import HandS.TupAny
import HandS.Text
import HandS.More
import HandS.Property
import KE.KDictList
import KE.KDictSum
import HandS.Star
import HandS.DictComp
import HandS.DictTup
import HandS.IsInst
import HandS.Style
import HandS.RaiseMore
import HandS.SortInts
import HandS.SetKeys
import OpenK.KOps
import KE.SortData
import KE.SortKeyHeap
import HandS.HeadEnd
import KE.SortLaws
import HandS.WordsExc
import HandS.Head0
import HandS.Head1
import HandS.Head2
import PySem.Challenge.RW_roadqueues_k01_lines_of_no_web
set_option Elab.async false
set_option linter.all false
set_option maxRecDepth 100000
set_option maxHeartbeats 0
/-! # An own error whose __init__ asks super() and keeps its value -/
namespace Mi
open PySem PySem.W PySem.Calls PyProof.Rows PySem.HandSPX
/-- the two rows of __init__ -/
inductive ErrBody : List Stmt → Prop where
  | mk (q0 q1 q2 q3 q4 q5 q6 q7 q8 q9 : Pos) (hl : (q2.endLine == q4.line) = true) : ErrBody [.Expr (.Call (.Attribute (.Call (.Name "super" q0) [] [] q1) "__init__" q2) [.Name "value" q3] [] q4) q5, .Assign [.Attribute (.Name "self" q6) "value" q7] (.Name "value" q8) q9]
def errBodyB : List Stmt → Bool
  | [.Expr (.Call (.Attribute (.Call (.Name a _) [] [] _) b pa) [.Name c _] [] pb) _, .Assign [.Attribute (.Name d _) e _] (.Name f _) _] =>
    (pa.endLine == pb.line) && decide (a = "super") && (decide (b = "__init__") && (decide (c = "value") && (decide (d = "self") && (decide (e = "value") && decide (f = "value")))))
  | _ => false
theorem errBodyB_ok {b : List Stmt} (h : errBodyB b = true) : ErrBody b := by
  unfold errBodyB at h
  split at h <;> first | cases h | skip
  simp only [Bool.and_eq_true, decide_eq_true_eq] at h
  obtain ⟨⟨hl, rfl⟩, rfl, rfl, rfl, rfl, rfl⟩ := h
  exact .mk _ _ _ _ _ _ _ _ _ _ hl
inductive ErrPar : Arguments → Prop where
  | mk (p1 p2 : Pos) : ErrPar { posonlyargs := [], args := [{ arg := "self", annotation := none, pos := p1 }, { arg := "value", annotation := none, pos := p2 }], vararg := none, kwonlyargs := [], kw_defaults := [], kwarg := none, defaults := [] }
def errParB : Arguments → Bool
  | ⟨[], [⟨a, none, _⟩, ⟨b, none, _⟩], none, [], [], none, []⟩ => decide (a = "self") && decide (b = "value")
  | _ => false
theorem errParB_ok {b : Arguments} (h : errParB b = true) : ErrPar b := by
  unfold errParB at h
  split at h <;> first | cases h | skip
  simp only [Bool.and_eq_true, decide_eq_true_eq] at h
  obtain ⟨rfl, rfl⟩ := h
  exact .mk _ _
structure ErrSc (sc : Scope) : Prop where
  kind : sc.kind = .function
  co : sc.isCoroutine = false
  gen : sc.isGenerator = false
  own : ∀ x ∈ sc.names, x.2 ≠ .cell
  sf : sc.names.lookup ("self" : Str) = some .local
  vl : sc.names.lookup ("value" : Str) = some .local
  sp : sc.names.lookup ("super" : Str) = some .globalImplicit
  cl : sc.names.lookup ("__class__" : Str) = some .free
def errScB (sc : Scope) : Bool := decide (sc.kind = .function) && (!sc.isCoroutine && (!sc.isGenerator && (sc.names.all (fun x => !decide (x.2 = .cell)) && (decide (sc.names.lookup ("self" : Str) = some .local) && (decide (sc.names.lookup ("value" : Str) = some .local) && (decide (sc.names.lookup ("super" : Str) = some .globalImplicit) && decide (sc.names.lookup ("__class__" : Str) = some .free)))))))
theorem errScB_ok {sc : Scope} (h : errScB sc = true) : ErrSc sc := by
  unfold errScB at h
  simp only [Bool.and_eq_true, Bool.not_eq_true', decide_eq_true_eq, List.all_eq_true, decide_eq_false_iff_not] at h
  obtain ⟨h1, h2, h3, h4, h5, h6, h7, h8⟩ := h
  exact ⟨h1, h2, h3, h4, h5, h6, h7, h8⟩
/-- the def of __init__, as the written part has it: fI the function, D the class in whose text it stands -/
structure ErrFn (P : Program) (K : Frag) (fI D : Addr) : Prop where
  fn : ∃ (oc : Value) (od : Option Addr) (nm qn : Str) (pr : Arguments) (body : List Stmt) (sc : Scope) (doc pm : Value) (an : Option Addr) (cda : Addr) (ct : Value) (cc : Addr) (osl : Array (Option Value)),
    K.lookup fI = some ⟨oc, od, .func (ksFn nm qn pr body sc .none .none doc pm an (.ref cda) ct cc), osl⟩ ∧ ErrPar pr ∧ ErrBody body ∧ ErrSc sc ∧ codeIn K (.ref cda) qn = true ∧
    (∃ (ccl : Value) (cdd : Option Addr) (vs : Array Value) (ccs : Array (Option Value)) (file : Str) (tf : Tok), K.lookup cda = some ⟨ccl, cdd, .fields vs, ccs⟩ ∧ vs[2]? = some (.str file tf) ∧ ((P.main.file : Str) == file) = true) ∧
    (∃ (cl : Value) (cld : Option Addr) (csl : Array (Option Value)), K.lookup cc = some ⟨cl, cld, .cell (some (.ref D)), csl⟩)
  sp : nsIn K mainGlobals "super" = some none
  top : (P.main.scope.names.lookup ("super" : Str)).isSome = false
  op : nsIn K cStatics "thirdparty.any" = some none
  cD : ∃ cd, clsIn K D = some cd
/-- the class at C that has this __init__, by itself or by D -/
structure ErrCls (K : Frag) (C fI D : Addr) : Prop where
  cls : ∃ nm q N bs bm sn sub ab col dd k0 k1 k2 k3 k5, K.lookup C = some (excClassObj nm q C N bs bm true sn sub ab col dd k0 k1 k2 k3 k5 "ValueError.__new__") ∧ refsVE bm = true
  sa : findIn K (.ref C) "__setattr__" = some (some (.builtin "object.__setattr__"))
  ga : findIn K (.ref C) "__getattribute__" = some (some (.builtin "BaseException.__getattribute__"))
  gg : findIn K (.ref C) "__getattr__" = some none
  noV : findIn K (.ref C) "value" = some none
  iC : findIn K (.ref C) "__init__" = some (some (.ref fI))
  tI : typeIn K (.ref fI) = some (.type "function")
  kC : keepIn K (.ref C) = true
  exC : subIn K (.ref C) (.type "BaseException") = some true
  veC : subIn K (.ref C) (.type "ValueError") = some true
  tyC : typeIn K (.ref C) = some (.type "type")
  hdC : hasDictIn K C = true
  sup : ks_superIn K C D "__init__" = some (some (.builtin "ValueError.__init__"))
  mD : mroIn K C (.ref D) = some true
  at_ : findIn K (.ref C) "__class__" = some (some (.builtin "object.__class__"))
  sg : specialIn K (.builtin "object.__class__") "__get__" = some (some (.builtin "getset_descriptor.__get__"))
  tk : takesIn K (.builtin "object.__class__") = some true
  mO : mroIn K C (.type "object") = some true
  /-- an except clause that names D takes it -/
  te : exmOne K (.ref C) (.ref D) = some true
/-- what __init__ leaves of the fresh exception at x -/
structure ErrIni (h h' : Heap) (x C dx t1 : Addr) (v : Value) : Prop where
  keep : ∀ b o, b ≠ x → h.get? b = some o → h'.get? b = some o
  obj : h'.get? x = some (excObj C t1 (some dx) .none)
  dbig : h.objs.size ≤ dx
  dne : dx ≠ x
  ns : h'.Ns1 dx (fun y => if y = "value" then some v else none)
section
variable {prog : Program} {w : World} {A : Around} {E : Value → Shared → Prop} {R : Result → Shared → Prop} {K : Frag} {C fI D : Addr} {mg mb : Str → Option Value}
theorem sup_tree {o : Expr} {m : Str} {apos pos : Pos} {e : Expr} {env : PySem.Env} (hf : methodCallForm 1 (backTo pos (starEach [e] env)) (backToKw pos (keywordEach [] env)) = true) (hl : (apos.endLine == pos.line) = true) : eval (.Call (.Attribute o m apos) [e] [] pos) env = (do
      let ov ← attributeBase o m env (eval o env)
      standAt apos.atName
      let (f, first) ← holding [ov] (getMethod ov m (do return (← importBound o env).getD true))
      callWith pos f first (backTo pos (starEach [e] env)) []) := by
  have hp : methodCallPos true o env apos pos = pure pos := by
    unfold methodCallPos
    rw [hl]
    rfl
  have hf' : methodCallForm ([e].length + ([] : List Keyword).length) (backTo pos (starEach [e] env)) (backToKw pos (keywordEach [] env)) = true := hf
  rw [PySem.arm_eval_Call]
  unfold methodCall
  rw [hf', hp]
  rfl
theorem ldx {s : Shared} {env : Env} {m : Str → Option Value} {x : Str} {pos : Pos} {v : Value} {Q : Value → Shared → Prop} (hn : s.heap.Ns env.locals m) (hv : m x = some v) (h : Q v s) (hk : env.scope.kind = .function) (hl : env.kindOf x = some .local)
    (hd : (x == ("__debug__" : Str)) = false := by decide) : wpAny (model prog w) A (eval (.Name x pos) env) Q E s := wpAny_Name (wpAny_loadName_local hk hl hn hv h) hd
theorem err_init (TF : ErrFn prog K fI D) (T : ErrCls K C fI D) {hp : Heap} {g : Array GenState} {d : Drawn} {t : Nat} {os : OsState} {x t0 : Addr} {v : Value} (X : K.In hp) (hlim : hp.NoLimit) (gl : hp.Ns mainGlobals mg) (bl : hp.Ns builtinsNs mb) (boot : ∀ x : Str, x ≠ "__name__" → mb x = bootBuiltins x)
    (hx : hp.get? x = some (excObj C t0 none .none)) (hnx : K.lookup x = none) (hroom : A.depth < recursionLimit) (hq : ∀ h' tk dx t1, ErrIni hp h' x C dx t1 v → R (.ok (.ret .none)) ⟨h', g, d, tk, os⟩) :
    codeAny (model prog w) A (.call (.ref fI) ⟨[.ref x, v], []⟩) R ⟨hp, g, d, t, os⟩ := by
  obtain ⟨oc, od, nm, qn, pr, body, sc, doc, pm, an, cda, ct, cc, osl, ho, hpr, hbd, S, hcd, ⟨ccl, cdd, vs, ccs, file, tf, hcode, hvs, hfile⟩, ⟨cl, cld, csl, hcell⟩⟩ := TF.fn
  obtain ⟨cdD, hD⟩ := TF.cD
  obtain ⟨nmC, qC, N, bs, bm, sn, sub, ab, col, dd, k0, k1, k2, k3, k5, hC, hbm⟩ := T.cls
  obtain ⟨p1, p2⟩ := hpr
  refine ks_codeAny_call_defAt (fd := ksFn nm qn _ body sc .none .none doc pm an (.ref cda) ct cc) (body := body) (binds := [("self", .ref x), ("value", v)]) hroom (X _ _ ho) rfl hlim (codeRec_of X hcd) rfl (BindsTo.of_eq rfl) S.own (fun y hy => ?_) (fun h₁ hns k₁ => ?_) S.co S.gen S.kind
  · rcases List.mem_cons.mp hy with e | hy
    · rw [e]; exact S.sf
    · rcases List.mem_cons.mp hy with e | hy
      · rw [e]; exact S.vl
      · cases hy
  have X₁ : K.In h₁ := X.keeps k₁
  have hx₁ := k₁ _ _ hx
  have eD : ∃ oD, h₁.get? D = some oD ∧ oD.data = .cls cdD := by
    unfold clsIn at hD
    split at hD
    · rename_i c d' cd' sl hoD
      cases hD
      exact ⟨_, X₁ _ _ hoD, rfl⟩
    · cases hD
  obtain ⟨oD, hD1, hD2⟩ := eD
  have xC : x ≠ C := by
    rintro rfl
    have e := X _ _ hC
    rw [hx] at e
    cases e
  have clC : clsIn K C = some { name := nmC, bases := bs, mro := .ref C :: bm, ns := N, qualname := qC, hasDict := true, slotNames := sn, subclasses := sub, abstract := ab, collection := col, hasDel := false } := by unfold clsIn; rw [hC] <;> rfl
  have hsup := T.sup
  unfold ks_superIn at hsup
  rw [clC] at hsup
  obtain ⟨q0, q1, q2, q3, q4, q5, q6, q7, q8, q9, hl⟩ := hbd
  -- super().__init__(value)
  refine ks_wpAt_execs_cons (ks_wpAt_Expr_any (ks_wpAt_MethodCall (ks_wpAt_super_base (fd := ksFn nm qn _ _ sc .none .none doc pm an (.ref cda) ct cc) S.sp S.cl (by decide) rfl (X₁ _ _ ho) rfl rfl rfl (X₁ _ _ hcode) rfl hvs hfile TF.top ?_) (sup_tree (by rfl) hl)) (by simp [interactive, callEnv, newEnv, S.kind]) rfl)
  refine ks_loadName_global S.kind S.sp (loadGlobal_builtin (gl.keeps k₁) (mg_none_of X gl TF.sp) (bl.keeps k₁) ((boot _ (by decide +kernel)).trans (by kernel_rfl)) ⟨rfl, ?_⟩)
  refine wpAny_loadName_free S.kind S.cl rfl ⟨_, X₁ _ _ hcell, rfl⟩ ?_
  refine wpAny_loadName_local S.kind S.sf hns rfl ?_
  refine ks_wpAny_isType_cls hD1 hD2 ⟨rfl, ?_⟩
  refine ks_wpAny_call_super hD1 hD2 hx₁ rfl (fun c e => by cases e) (looks_mroIn X₁ T.mD) (fun h₂ hso k₂ => ?_)
  have X₂ : K.In h₂ := X₁.keeps k₂
  have hx₂ := k₂ _ _ hx₁
  have I₂ : W.InstAt h₂ x (excObj C t0 none .none) C none := ⟨hx₂, rfl, rfl, trivial⟩
  refine kxs_getMethod kxs_ValueError hso (looks_opaque X₂ TF.op) (l₀ := .ref C :: bm) (fun A Q E s k q => wpAny_bind ((looks_clsIn X₂ clC) A _ E s k (wpAny_pure q))) rfl X₂ hsup (I₂.type.andThen (looks_subIn X₂ T.veC)) xC (by decide) ?_
  have k₃ : ∀ b o, h₂.get? b = some o → (h₂.push (kxs_mw "ValueError.__init__" x)).get? b = some o := fun b o e => Heap.get?_push_of_some _ e
  have hu : (h₂.push (kxs_mw "ValueError.__init__" x)).get? h₂.objs.size = some (kxs_mw "ValueError.__init__" x) := Heap.get?_push_at rfl rfl
  have hn₃ := (hns.keeps k₂).keeps k₃
  refine kxs_callWith (i := "ValueError.__init__") (x := x) rfl (evalArgs_plain (spliced_cons (ldx hn₃ rfl (spliced_nil ⟨hu, ?_⟩) S.kind S.vl)))
  have hC₃ := k₃ _ _ (X₂ _ _ hC)
  have hx₃ := k₃ _ _ hx₂
  refine wpAny_call (codeAny_of_tree ?_)
  show wpAny _ _ (callAny (.ref h₂.objs.size) ⟨[v], []⟩) _ _ _
  simp only [callAny]
  refine wpAny_bind (wpAny_load hu ?_)
  simp only [kxs_mw, show (Value.type "method-wrapper" == Value.type "method" || Value.type "method-wrapper" == Value.type "builtin_function_or_method" || Value.type "method-wrapper" == Value.type "method-wrapper") = true by decide, if_true]
  refine KFB.if_so (by decide) ?_
  refine wpAny_bind (check_bound_init PySem.F.excBase_ValueError.toExcCallFacts hC₃ hx₃ rfl ?_)
  refine wpAny_bind (wpAny_pure (wpAny_pure ?_))
  refine ⟨plainId_quiet PySem.F.excBase_ValueError.init.plain _, codeAny_builtin PySem.F.excBase_ValueError.initEntry ?_⟩
  refine exc_init_tree (cls := .ref C) (t0 := t0) (dv := none) (c2 := .none) (c3 := .none) (b4 := .bool false) hx₃ (show 1 ≤ sizeLine by rw [sizeLine_eq]; decide) fun h₄ k₄ hx₄' _ => ?_
  obtain ⟨t1, hx₄⟩ : ∃ t1, h₄.get? x = some (excObj C t1 none .none) := ⟨_, hx₄'⟩
  -- self.value = value
  have xne : ∀ b o, h₁.get? b = some o → b ≠ x → h₄.get? b = some o := fun b o e ne => k₄ b o ne (k₃ b o (k₂ b o e))
  have X₄ : K.In h₄ := fun b o e => xne b o (X₁ b o e) (by
    rintro rfl
    rw [hnx] at e
    cases e)
  have hn₄ : h₄.Ns hp.objs.size (fun y => ([("self", Value.ref x), ("value", v)] : List (Str × Value)).reverse.lookup y) := by
    obtain ⟨oL, es, ep, hL, r⟩ := hns
    exact ⟨oL, es, ep, xne _ _ hL (Nat.ne_of_gt (Heap.lt_size hx)), r⟩
  refine wpAt_of_wpAny (wpAny_execs_cons (plainObj_wpAny_Assign_Attribute (ldx (v := v) hn₄ rfl (ldx (v := .ref x) hn₄ rfl ?_ S.kind S.sf) S.kind S.vl)))
  refine set_plain X₄ (ox := excObj C t1 none .none) (od := none) ⟨hx₄, rfl, rfl, trivial⟩ T.sa ?_
  refine exc_osa X₄ hx₄ clC (show refsVE (.ref C :: bm) = true from hbm) rfl T.noV (fun h₅ tk₅ dx k₅ dn dne hx₅ hn₅ => ?_)
  exact wpAny_execs_nil (hq h₅ _ dx _ ⟨fun b o hb e => k₅ b o hb (xne b o (k₁ b o e) hb), hx₅, Nat.le_of_lt (Nat.lt_of_lt_of_le hn₄.lt dn), dne, hn₅⟩)
/-- a made error -/
structure ErrNew (h h' : Heap) (e C d : Addr) (v : Value) : Prop where
  keep : ∀ b o, h.get? b = some o → h'.get? b = some o
  new : h.objs.size ≤ e
  obj : ∃ t1, h'.get? e = some (excObj C t1 (some d) .none)
  dbig : h.objs.size ≤ d
  dne : d ≠ e
  ns : h'.Ns1 d (fun y => if y = "value" then some v else none)
/-- the class is called -/
theorem err_made (TF : ErrFn prog K fI D) (T : ErrCls K C fI D) {hp : Heap} {g : Array GenState} {d : Drawn} {t : Nat} {os : OsState} {v : Value} (X : K.In hp) (hlim : hp.NoLimit) (gl : hp.Ns mainGlobals mg) (bl : hp.Ns builtinsNs mb) (boot : ∀ x : Str, x ≠ "__name__" → mb x = bootBuiltins x)
    (hroom : A.depth + 1 < recursionLimit) (hq : ∀ h' tk e dx, ErrNew hp h' e C dx v → R (.ok (.ret (.ref e))) ⟨h', g, d, tk, os⟩) :
    codeAny (model prog w) A (.call (.ref C) ⟨[v], []⟩) R ⟨hp, g, d, t, os⟩ := by
  obtain ⟨nmC, qC, N, bs, bm, sn, sub, ab, col, dd, k0, k1, k2, k3, k5, hC, hbm⟩ := T.cls
  have k : ∀ b o, hp.get? b = some o → ((hp.push (kdv_tup [v])).push (excO C hp.objs.size)).get? b = some o := fun b o e => Heap.get?_push_of_some _ (Heap.get?_push_of_some _ e)
  have hget : ((hp.push (kdv_tup [v])).push (excO C hp.objs.size)).get? (hp.objs.size + 1) = some (excO C hp.objs.size) := by heap_get
  have hnx : K.lookup (hp.objs.size + 1) = none := by
    cases e : K.lookup (hp.objs.size + 1) with
    | none => rfl
    | some o => exact absurd (Nat.lt_of_succ_lt (Heap.lt_size (X _ _ e))) (Nat.lt_irrefl _)
  refine call_own PySem.F.excBase_ValueError (fun Y => refsVE_contains Y bm hbm) (X _ _ hC) (looks_findIn X T.iC) (fun self => bind_fn X self T.tI) (show 1 ≤ sizeLine by rw [sizeLine_eq]; decide) ?_
  refine err_init TF T (X.keeps k) (hlim.keeps k) (gl.keeps k) (bl.keeps k) boot hget hnx hroom fun h' tk dx t1 N => ?_
  have old : ∀ b o, hp.get? b = some o → h'.get? b = some o := fun b o e => N.keep b o (Nat.ne_of_lt (Nat.lt_succ_of_lt (Heap.lt_size e))) (k b o e)
  have z : hp.objs.size + 1 + 1 ≤ dx := by
    have q := N.dbig
    rw [Heap.size_push, Heap.size_push] at q
    exact q
  exact ⟨rfl, hq h' tk (hp.objs.size + 1) dx ⟨old, Nat.le_succ _, ⟨t1, N.obj⟩, Nat.le_trans (Nat.le_trans (Nat.le_succ _) (Nat.le_succ _)) z, N.dne, N.ns⟩⟩
end
end Mi
namespace Mi
open PySem PySem.Spec PyProof.Rows L2
/-- an error object that is held: its class, its dict -/
def ErrO (cls : Value) (d a : Addr) : HO := .ext fun h => ∃ (oe : Obj) (vs : Array Value), h.get? a = some oe ∧ Zc cls (some d) oe ∧ oe.data = .fields vs
theorem errO_ok {P : Program} {w : World} {H : Hp} {h : Heap} {a d : Addr} {cls : Value} {oe : Obj} {vs : Array Value} (e : h.get? a = some oe) (z : Zc cls (some d) oe) (dt : oe.data = .fields vs) : ObjOk P w H h a (ErrO cls d a) :=
  ⟨⟨oe, vs, e, z, dt⟩, ⟨oe, e⟩, fun _ _ ⟨o, v, q, r⟩ k => ⟨o, v, k o q, r⟩⟩
theorem relO_err {v : V} {v' : Value} (r : RelV v v') (f : Str) : RelO (List.lookup f [(("value" : Str), v)]) (if f = "value" then some v' else none) := by
  by_cases hw : f = "value"
  · subst hw
    rw [if_pos rfl, show List.lookup ("value" : Str) [(("value" : Str), v)] = some v by simp [List.lookup]]
    exact r
  · have qw : (f == ("value" : Str)) = false := by simpa using hw
    rw [if_neg hw, show List.lookup f [(("value" : Str), v)] = none by simp [List.lookup, qw]]
    trivial
section
variable {X : Cx} {C fI D : Addr}
/-- C(e), to be raised -/
def tErr (C : Addr) (te : TE) : L2.St → Hp → XK → Prop := fun σ H Q => te σ H fun v H1 => ∀ d, H1 d = none → Q (.ref C) (some d) (upd H1 d (.xd [(("value" : Str), v)]))
theorem err_arg {x : Str} {a : Expr} {te : TE} {p pos : Pos} {pins : List (Addr × Obj)} {σ : L2.St} {H : Hp} {s : Shared} {Q : VK} {R : Value → Shared → Prop} (kC : PySem.W.keepIn X.K (.ref C) = true) (gC : X.mg x = some (.ref C)) (hg : Gl X x) (hdb : (x == ("__debug__" : Str)) = false) (ha : PE X a te)
    (he : starEach (a :: []) X.env = (false, eval a X.env) :: starEach [] X.env) (I : Inv X pins σ H s) (h : te σ H Q)
    (hR : ∀ v v' H1 s1, Inv X pins σ H1 s1 → RelV v v' → Q v H1 → wpAny (model X.prog X.w) X.A (call (.ref C) [v']) R X.xe s1) : wpAny (model X.prog X.w) X.A (eval (.Call (.Name x p) [a] [] pos) X.env) R X.xe s := by
  refine wpAny_Call_Name_kw (ld_glob I hg gC ?_ hdb)
  refine PySem.W.callWith_K (h₀ := X.base) I.ok.mod.kin kC ?_ he rfl
  rw [he]
  show wpAny _ _ (spliced ((false, eval a X.env) :: backTo pos (starEach [] X.env))) _ _ s
  refine Calls.spliced_cons (thn (ha.run pins s σ H _ I h) fun u s1 ⟨v, H1, I1, r1, q1⟩ => ?_)
  exact Calls.spliced_nil ⟨I1.kIn, hR v u H1 s1 I1 r1 q1⟩
theorem pmk_err {x : Str} {a : Expr} {te : TE} {p pos : Pos} {k : Nat} (TF : ErrFn X.prog X.K fI D) (T : ErrCls X.K C fI D) (gC : X.mg x = some (.ref C)) (hr : Room k X.A) (hg : Gl X x) (hdb : (x == ("__debug__" : Str)) = false) (ha : PE X a te)
    (he : starEach (a :: []) X.env = (false, eval a X.env) :: starEach [] X.env) : PMk X (.Call (.Name x p) [a] [] pos) (tErr C te) := by
  intro pins s σ H Q I h
  refine err_arg T.kC gC hg hdb ha he I h fun v v' H1 s1 I1 rv q1 => ?_
  have hlim := I1.nolimit
  obtain ⟨mb, bl, boot⟩ := I1.mod.blt
  have gl := I1.mod.glob.keeps I1.bk
  have bl := bl.keeps I1.bk
  have kin := I1.kIn
  obtain ⟨hp, g, dr, tk, os⟩ := s1
  refine wpAny_call (err_made TF T kin hlim gl bl boot (by have := hr.dp; omega) fun h' tk' e d M => ?_)
  show MkP X pins σ Q (.ref e) ⟨h', g, dr, tk', os⟩
  obtain ⟨t1, hoe⟩ := M.obj
  obtain ⟨G', g1, g2⟩ := restrict h' fun b => decide (b ≠ e)
  have gk : ∀ b, b ≠ e → G'.get? b = h'.get? b := fun b hb => g1 b (decide_eq_true hb)
  have ge : G'.get? e = none := g2 e (by simp)
  have old : ∀ b o, hp.get? b = some o → G'.get? b = some o := fun b o q => (gk b (Nat.ne_of_lt (Nat.lt_of_lt_of_le (Heap.lt_size q) M.new))).trans (M.keep b o q)
  have J : Inv X pins σ (upd H1 d (.xd [(("value" : Str), v)])) ⟨G', g, dr, tk', os⟩ := I1.laid (t' := tk') old M.dbig ⟨_, M.ns.at (fun o q => (gk d M.dne).trans q), fun f => relO_err rv f⟩
  refine ⟨e, _, _, ⟨G', g, dr, tk', os⟩, _, .ref C, some d, rfl, J, fun b o q => ?_, ge, hoe, ⟨rfl, rfl⟩, rfl, rfl, ?_, rfl, I1.bare, raises_own T.exC T.tyC, q1 d (I1.hok.fresh M.dbig)⟩
  · by_cases hb : b = e
    · have q' : G'.get? b = some o := q
      rw [hb, ge] at q'; cases q'
    · exact (gk b hb).symm.trans q
  · rw [upd_ne (Ne.symm M.dne)]
    exact I1.hok.fresh M.new
/-- C(e), a value -/
theorem pe_err {x : Str} {a : Expr} {te : TE} {p pos : Pos} {k : Nat} (TF : ErrFn X.prog X.K fI D) (T : ErrCls X.K C fI D) (gC : X.mg x = some (.ref C)) (hr : Room k X.A) (hg : Gl X x) (hdb : (x == ("__debug__" : Str)) = false) (ha : PE X a te)
    (he : starEach (a :: []) X.env = (false, eval a X.env) :: starEach [] X.env) : PE X (.Call (.Name x p) [a] [] pos) (fun σ H Q => te σ H fun v H1 => ∀ d e, H1 d = none → H1 e = none → d ≠ e → Q (.ref e) (upd (upd H1 d (.xd [(("value" : Str), v)])) e (ErrO (.ref C) d e))) := by
  refine ⟨fun pins s σ H Q I h => ?_⟩
  refine err_arg T.kC gC hg hdb ha he I h fun v v' H1 s1 I1 rv q1 => ?_
  have hlim := I1.nolimit
  obtain ⟨mb, bl, boot⟩ := I1.mod.blt
  have gl := I1.mod.glob.keeps I1.bk
  have bl := bl.keeps I1.bk
  have kin := I1.kIn
  obtain ⟨hp, g, dr, tk, os⟩ := s1
  refine wpAny_call (err_made TF T kin hlim gl bl boot (by have := hr.dp; omega) fun h' tk' e d M => ?_)
  obtain ⟨t1, hoe⟩ := M.obj
  have nd := I1.hok.fresh M.dbig
  have ne := I1.hok.fresh M.new
  have ne' : upd H1 d (.xd [(("value" : Str), v)]) e = none := by rw [upd_ne (Ne.symm M.dne)]; exact ne
  have lt : ∀ {b : Addr} {o : Obj}, hp.get? b = some o → b ≠ e ∧ b ≠ d := fun {b o} q => ⟨Nat.ne_of_lt (Nat.lt_of_lt_of_le (Heap.lt_size q) M.new), Nat.ne_of_lt (Nat.lt_of_lt_of_le (Heap.lt_size q) M.dbig)⟩
  have at_ : ∀ {b : Addr} {u : HO}, H1 b = some u → upd (upd H1 d (.xd [(("value" : Str), v)])) e (ErrO (.ref C) d e) b = some u := fun {b u} q => by
    rw [upd_ne (ne_of_none q ne), upd_ne (ne_of_none q nd)]
    exact q
  have U : Un X.fs [] H1 (upd (upd H1 d (.xd [(("value" : Str), v)])) e (ErrO (.ref C) d e)) hp h' := {
    keep := fun b o q _ _ _ => M.keep b o q
    slot := fun b o q _ _ _ => ⟨o.slots, M.keep b o q⟩
    free := fun b o q n _ => by rw [upd_ne (lt q).1, upd_ne (lt q).2]; exact n
    there := fun b o q _ => ⟨o, M.keep b o q⟩
    tups := fun b xs q => at_ q
    frzs := fun b o u q => at_ q
    tbls := fun b ps q => ⟨#[], by rw [at_ q]; simp⟩ }
  have hok1 : HOk X.prog X.w (upd H1 d (.xd [(("value" : Str), v)])) h' := I1.hok.laid M.keep M.dbig ⟨_, M.ns, fun f => relO_err rv f⟩
  have hok2 : HOk X.prog X.w (upd (upd H1 d (.xd [(("value" : Str), v)])) e (ErrO (.ref C) d e)) h' := HOk.laidN hok1 (fun _ _ q => q) ne' (errO_ok hoe ⟨rfl, rfl⟩ rfl)
  exact ⟨.ref e, _, I1.un U hok2, rfl, q1 d e nd ne M.dne⟩
end
end Mi

/-! # try .. except X as e, the error tracked while it is held and behind the suite -/
namespace Mi
open PySem PySem.Spec PyProof.Rows L2
section
variable {X : Cx} {pins : List (Addr × Obj)} {σ : L2.St} {H : Hp} {s : Shared}
/-- an error that came about behind the entry is tracked -/
theorem Inv.hold {a dd : Addr} {cls : Value} {oe : Obj} {fv : Array Value} (I : L2.Inv X pins σ H s) (he : s.heap.get? a = some oe) (hz : Zc cls (some dd) oe) (hd : oe.data = .fields fv) (na : H a = none) (n0 : X.s_0.heap.get? a = none) (nL : a ≠ X.env.locals) (np : ∀ p ∈ X.pn ++ pins, p.1 ≠ a) :
    L2.Inv X pins σ (upd H a (ErrO cls dd a)) s := by
  have at_ : ∀ {b : Addr} {u : HO}, H b = some u → upd H a (ErrO cls dd a) b = some u := fun {b u} q => by rw [upd_ne (ne_of_none q na)]; exact q
  refine ⟨I.ok, I.os, I.bare, ⟨I.base.keep, I.base.slot, fun b o e n x => ?_, I.base.there, fun b xs e => at_ (I.base.tups b xs e), fun b o u e => at_ (I.base.frzs b o u e), fun b ps e => ?_⟩, I.loc, I.cell, ?_, fun y c e => ?_, fun p hp => ?_, HOk.laidN I.hok (fun _ _ q => q) na (errO_ok he hz hd), I.len⟩
  · rw [upd_ne (by rintro rfl; rw [n0] at e; cases e)]
    exact I.base.free b o e n x
  · obtain ⟨m, q⟩ := I.base.tbls b ps e
    exact ⟨m, at_ q⟩
  · rw [upd_ne (Ne.symm nL)]
    exact I.free
  · obtain ⟨v, oc, e1, e2⟩ := I.cell y c e
    rw [upd_ne (by rintro rfl; rw [he] at e1; cases e1; rw [hd] at e2; cases e2)]
    exact I.freeC y c e
  · obtain ⟨e, n, r⟩ := I.pin p hp
    exact ⟨e, by rw [upd_ne (np p hp)]; exact n, r⟩
theorem Inv.inSuite (I : L2.Inv X pins σ H s) (a : Addr) : L2.Inv (X.suite a (X.pn ++ pins)) [] σ H s :=
  ⟨Cx.Ok.suite I.ok _ _, I.os, I.bare, I.base, I.loc, I.cell, I.free, I.freeC, fun p hp => I.pin p (by rw [List.append_nil] at hp; exact hp), I.hok, I.len⟩
theorem Inv.offSuite {a : Addr} {pn' : List (Addr × Obj)} (I : L2.Inv (X.suite a (X.pn ++ pins)) pn' σ H s) (ok : X.Ok) : L2.Inv X pins σ H s :=
  ⟨ok, I.os, I.bare, I.base, I.loc, I.cell, I.free, I.freeC, fun p hp => I.pin p (List.mem_append_left _ hp), I.hok, I.len⟩
end
/-- behind the suite the name is gone -/
abbrev goneE (i : Nat) (D : Ends) : Ends := { nx := fun τ G => D.nx (τ.set i none) G, bk := fun τ G => D.bk (τ.set i none) G, ct := fun τ G => D.ct (τ.set i none) G, rt := D.rt }
/-- the body's errors are all the clause's -/
def wHold (K : PySem.W.Frag) (c : Value) (i : Nat) (ts : TS) (D : Ends) : WX := fun cls d τ G =>
  ∃ dd, d = some dd ∧ PySem.W.exmOne K cls c = some true ∧ ∀ a, G a = none → ts (goneE i D) (τ.set i (some (.ref a))) (upd G a (ErrO cls dd a))
section
variable {X : Cx} {x n : Str} {c : Value} {i : Nat} {body suite : List Stmt} {b₀ : Stmt} {np pos pos' : Pos} {tb : WX → TS} {ts : TS}
theorem ps_hold (hs : X.stack = X.env :: X.outer) (hf : X.env.frame = some X.env.locals) (hex : X.ex = []) (hN : X.N.Nodup) (hi : X.N[i]? = some n) (hln : X.env.kindOf n = some .local) (hc : Names X x c)
    (hb : ∀ (W : WX) (pn : List (Addr × Obj)) (xe : Value → Shared → Prop), Takes (X.tr pn xe) W → PassesOwn (model X.prog X.w) X.A X.env xe → PSs (X.tr pn xe) body (tb W))
    (hsu : ∀ (a : Addr) (pn : List (Addr × Obj)), PSs (X.suite a pn) (b₀ :: suite) ts) :
    PS X (.Try body [.ExceptHandler (some (.Name x np)) (some n) (b₀ :: suite) pos'] [] [] pos) (fun D τ G => tb (wHold X.K c i ts D) D τ G) := by
  refine ⟨fun pins s σ H D I h => ?_⟩
  have okX := I.ok
  have frms : X.A.frames = some (X.env :: X.outer) := by rw [okX.frames, hs]
  refine wpAny_Try_except (wpAny_mono ((hb (wHold X.K c i ts D) (X.pn ++ pins) (fun z s₁ => wpAny (model X.prog X.w) X.A (noteFrame z X.env) (fun _ s₂ => wpAny (model X.prog X.w) X.A (setFlight z none) (fun _ s₃ =>
    wpAny (model X.prog X.w) X.A (handleBy z X.env [.ExceptHandler (some (.Name x np)) (some n) (b₀ :: suite) pos']) (SP X pins D) X.xe s₃) X.xe s₂) X.xe s₁) (fun z t hz0 => ?_) PassesOwn.looking).run [] s σ H D (I.toTry _) h) (fun fl t hfl => ?_) (fun _ _ hq => hq))
  · -- an error of the body
    obtain ⟨a, B, t0, pins1, τ, G, cls, d, rfl, J1, ground, up, sky, na, os, ag, dd, rfl, ex1, hT⟩ := hz0
    have J : L2.Inv X pins τ G t0 := J1.ofTry okX
    rw [show (X.tr (X.pn ++ pins) _).stack = X.stack from rfl, hs] at sky
    show wpAny (model X.prog X.w) X.A (noteFrame (.ref a) X.env) _ _ _
    refine Sky.land Zc.steady frms hf sky fun h3 fl3 up3 => ?_
    have J3 : L2.Inv X pins τ G { t with heap := h3 } := J.landed ground fl3.1 (up.trans up3) os ag
    obtain ⟨o3, v3, e3, z3, d3⟩ := fl3.there
    have nfr : a ∉ frs (X.env :: X.outer) := fun hm => by
      obtain ⟨_, o', e', hnf⟩ := fl3.2.2.1.mem hm
      rw [e3] at e'; cases e'
      exact hnf _ d3
    have nL : a ≠ X.env.locals := fun z => nfr (List.mem_filterMap.mpr ⟨X.env, List.mem_cons_self, by rw [hf, z]⟩)
    have nB : B.get? a = none := fl3.2.1
    have toB : ∀ b o, t0.heap.get? b = some o → b ∉ frs (X.env :: X.outer) → b ≠ a := fun b o e hb => by
      rintro rfl
      have q := ground b o e (by show b ∉ frs X.stack; rw [hs]; exact hb)
      rw [nB] at q; cases q
    have n0 : X.s_0.heap.get? a = none := by
      cases q : X.s_0.heap.get? a with
      | none => rfl
      | some o =>
        obtain ⟨o', q'⟩ := J.base.there a o q (by rw [hex]; exact fun z => nomatch z)
        exact absurd rfl (toB a o' q' nfr)
    have npn : ∀ p ∈ X.pn ++ pins, p.1 ≠ a := fun p hp => by
      obtain ⟨e, _, l1, l2, _⟩ := J.pin p hp
      refine toB p.1 p.2 e fun hm => ?_
      obtain ⟨v, hv, q⟩ := List.mem_filterMap.mp hm
      rcases List.mem_cons.mp hv with rfl | hv
      · rw [hf] at q; exact l1 (Option.some.inj q).symm
      · exact l2 (List.mem_filterMap.mpr ⟨v, hv, q⟩)
    have S3 := Inv.inSuite J3 a
    refine wpAny_handleBy_cons (codeAny_handlers_test ?_) (by intro q; cases q)
    have lt : PySem.W.Looks (model X.prog X.w) h3 (typeOf (.ref a)) cls := fun _ _ _ s k q => wpAny_typeOf_ref (k _ _ e3) (by rw [z3.1]; exact q)
    have lm := PySem.W.exm_one (M := model X.prog X.w) J3.kIn lt ex1
    have named : ∀ {Q E : Value → Shared → Prop}, Q c { t with heap := h3 } → wpAny (model X.prog X.w) (X.A.mark (some (.ref a))) (eval (.Name x np) X.env) Q E { t with heap := h3 } := fun {Q E} q => by
      obtain ⟨g1, g2, g3 | ⟨g3, g4, g5⟩⟩ := hc
      · exact ld_glob (X := X.suite a (X.pn ++ pins)) S3 g1 g3 q g2
      · exact ld_blt (X := X.suite a (X.pn ++ pins)) S3 g1 g3 g4 q g5 g2
    refine named (lm.here (codeAny_handlers_suite_as (HandSPX.lands_againZ fl3 fun h4 fl4 up4 => ?_)))
    have J4 : L2.Inv X pins τ G { t with heap := h4 } := J.landed ground fl4.1 ((up.trans up3).trans up4) os ag
    obtain ⟨o4, v4, e4, z4, d4⟩ := fl4.there
    have S4 := Inv.inSuite (Inv.hold J4 e4 z4 d4 na n0 nL npn) a
    refine store_ok (X := X.suite a (X.pn ++ pins)) (v := .ref a) S4 hN hi (.inl hln) rfl (fun s5 S5 => ?_) (.inr hln)
    refine wpAny_mono ((hsu a (X.pn ++ pins)).run [] s5 _ _ _ S5 (hT a na)) (fun fl s6 hfl => ?_) (fun _ _ z => False.elim z)
    have out : ∀ {τ6 : L2.St} {G6 : Hp} {Q : Shared → Prop}, L2.Inv (X.suite a (X.pn ++ pins)) [] τ6 G6 s6 → (∀ s7, L2.Inv X pins (τ6.set i none) G6 s7 → Q s7) →
        wpAny (model X.prog X.w) X.A (do bindName X.env n .none; unbindBehindTheSuite X.env n pos') (fun _ s7 => Q s7) X.xe s6 := fun {τ6 G6 Q} S6 hq => gone_ok (Inv.offSuite S6 okX) hN hi hln hq
    cases fl with
    | next => obtain ⟨τ6, G6, S6, q6⟩ := hfl; exact out S6 fun s7 J7 => ⟨_, _, J7, q6⟩
    | brk => obtain ⟨τ6, G6, S6, q6⟩ := hfl; exact out S6 fun s7 J7 => ⟨_, _, J7, q6⟩
    | cont => obtain ⟨τ6, G6, S6, q6⟩ := hfl; exact out S6 fun s7 J7 => ⟨_, _, J7, q6⟩
    | ret u => obtain ⟨w6, τ6, G6, S6, r6, q6⟩ := hfl; exact out S6 fun s7 J7 => ⟨_, _, _, J7, r6, q6⟩
  · cases fl with
    | next => obtain ⟨τ, G, J, q⟩ := hfl; exact wpAny_execs_nil ⟨τ, G, J.ofTry okX, q⟩
    | brk => obtain ⟨τ, G, J, q⟩ := hfl; exact ⟨τ, G, J.ofTry okX, q⟩
    | cont => obtain ⟨τ, G, J, q⟩ := hfl; exact ⟨τ, G, J.ofTry okX, q⟩
    | ret u => obtain ⟨v, τ, G, J, r, q⟩ := hfl; exact ⟨v, τ, G, J.ofTry okX, r, q⟩
end
/-! ### what is asked of a held error -/
section
variable {X : Cx} {C fI D : Addr}
/-- e.value -/
theorem pe_ev {ob : Expr} {te : TE} {pos : Pos} (he : PE X ob te) (hbase : attributeBase ob "value" X.env (eval ob X.env) = eval ob X.env) :
    PE X (.Attribute ob "value" pos) (fun σ H Q => te σ H fun x H1 => ∃ a C fI D dd v, x = .ref a ∧ ErrCls X.K C fI D ∧ H1 a = some (ErrO (.ref C) dd a) ∧ H1 dd = some (.xd [(("value" : Str), v)]) ∧ Q v H1) := by
  refine ⟨fun pins s σ H Q I h => ?_⟩
  refine attr_of hbase (thn (he.run pins s σ H _ I h) fun u s1 ⟨x, H1, I1, rx, a, C, fI, D, dd, v, ex, T, ea, ed, q⟩ => ?_)
  subst ex
  obtain rfl : u = Value.ref a := rx
  obtain ⟨⟨oe, fv, e1, e2, e3⟩, _⟩ := I1.hok a _ ea
  obtain ⟨mA, hns, hr⟩ := I1.hok dd _ ed
  obtain ⟨od, ho, hl⟩ := lookIn_ns hns
  obtain ⟨u, hu, ru⟩ := RelO.some_of (v := v) (o := mA "value") (by have z := hr "value"; rw [show List.lookup ("value" : Str) [(("value" : Str), v)] = some v by simp [List.lookup]] at z; exact z)
  have J : PySem.W.InstAt s1.heap a oe C (some od) := ⟨e1, e2.1, by unfold PySem.W.notCls; rw [e3] <;> rfl, by rw [e2.2]; exact ho⟩
  exact HandSPX.exc_get I1.kIn J T.ga T.gg T.exC (PySem.W.findObj_own T.hdC T.noV rfl (by rw [hl, hu])) (handed_of ru) ⟨v, H1, I1.tok _, ru, q⟩
/-- isinstance(e, c) -/
def rIsX (K : PySem.W.Frag) : List V → Hp → VK → Prop := fun xs H Q => ∃ (a C fI D dd : Addr) (w v : V) (cv : Value) (b : Bool), xs = [.ref a, w] ∧ ErrCls K C fI D ∧ H a = some (ErrO (.ref C) dd a) ∧ H dd = some (.xd [(("value" : Str), v)]) ∧ (∀ u, RelV w u → u = cv) ∧ PySem.W.kitOne K (.ref C) cv = some b ∧ Q (.bl b) H
theorem call_isX : CallR X (.builtin "isinstance") (rIsX X.K) := by
  intro pins s σ H xs us Q I r h
  obtain ⟨a, C, fI, D, dd, w, v, cv, b, rfl, T, ea, ed, hcv, e, q⟩ := h
  cases r with
  | cons rx rr =>
    cases rr with
    | cons rt rr =>
      cases rr
      cases rx
      obtain rfl := hcv _ rt
      obtain ⟨⟨oe, fv, e1, e2, e3⟩, _⟩ := I.hok a _ ea
      obtain ⟨mA, hns, hr⟩ := I.hok dd _ ed
      obtain ⟨od, ho, hl⟩ := lookIn_ns hns
      have J : PySem.W.InstAt s.heap a oe C (some od) := ⟨e1, e2.1, by unfold PySem.W.notCls; rw [e3] <;> rfl, by rw [e2.2]; exact ho⟩
      have cC : (PySem.W.clsIn X.K C).isSome = true := by
        obtain ⟨cd, hc, _⟩ := PySem.W.any_some T.hdC
        rw [hc] <;> rfl
      exact PySem.W.kia_one (PySem.W.kitx_exc cC T.ga T.gg T.exC T.at_ T.sg T.tk T.mO) I.kIn J e (fun z => nomatch z) fun tk => ⟨.bl b, H, I.kept (t' := tk) fun _ _ z => z, rfl, q⟩
end
end Mi

/-! # A small language: trees as values, a store of lists, an evaluator -/
namespace Mi
open PySem (Str)

/-- values. flst: a list that nobody changes any more; fdk, fins: a dict, an instance that nobody changes any more -/
inductive D where
  | non | bl (b : Bool) | int (i : Int) | str (x : Str)
  | tup (xs : List D) | flst (xs : List D) | loc (n : Nat)
  | fdk (ks : List (Sum Int Str)) (vs : List D) | fins (c : Str) (fs : List Str) (vs : List D)
  /-- an error that is held: its class, its value; a lambda: which one, what it captured -/
  | exc (c : String) (v : D) | clo (n : Nat) (ds : List D)
  deriving Inhabited
/-- keys of dicts -/
abbrev Ky := Sum Int Str

inductive Cell where
  | lst (xs : List D) | dk (kvs : List (Ky × D)) | ins (c : Str) (fs : List (Str × D))
  /-- a dict that was gone along: nobody changes it any more -/
  | lk (kvs : List (Ky × D))
  deriving Inhabited

abbrev Sto := List Cell
abbrev Env := List (Option D)

/-- an expression's end -/
inductive R (α : Type) where
  | ok (a : α) (s : Sto) | ex (c : String) (v : D) (s : Sto) | no

namespace R
def bind {α β : Type} (x : R α) (f : α → Sto → R β) : R β := match x with
  | .ok a s => f a s
  | .ex c v s => .ex c v s
  | .no => .no
@[simp] theorem bind_ok {α β : Type} (a : α) (s : Sto) (f : α → Sto → R β) : (R.ok a s).bind f = f a s := rfl
@[simp] theorem bind_ex {α β : Type} (c : String) (v : D) (s : Sto) (f : α → Sto → R β) : (R.ex c v s : R α).bind f = .ex c v s := rfl
@[simp] theorem bind_no {α β : Type} (f : α → Sto → R β) : (R.no : R α).bind f = .no := rfl
end R

/-- no error may leave -/
def R.nox {α : Type} : R α → R α
  | .ex _ _ _ => .no
  | r => r
@[simp] theorem R.nox_ok {α : Type} (a : α) (s : Sto) : (R.ok a s).nox = .ok a s := rfl
@[simp] theorem R.nox_ex {α : Type} (c : String) (v : D) (s : Sto) : (R.ex c v s : R α).nox = .no := rfl
@[simp] theorem R.nox_no {α : Type} : (R.no : R α).nox = .no := rfl
inductive Fl where | nxt | brk | cnt | ret (d : D)
/-- a statement's end -/
inductive RS where
  | ok (f : Fl) (env : Env) (s : Sto) | ex (c : String) (v : D) (env : Env) (s : Sto) | no

def R.toS {α : Type} (x : R α) (env : Env) (f : α → Sto → RS) : RS := match x with
  | .ok a s => f a s
  | .ex c v s => .ex c v env s
  | .no => .no
@[simp] theorem R.toS_ok {α : Type} (a : α) (s : Sto) (env : Env) (f : α → Sto → RS) : (R.ok a s).toS env f = f a s := rfl
@[simp] theorem R.toS_ex {α : Type} (c : String) (v : D) (s : Sto) (env : Env) (f : α → Sto → RS) : (R.ex c v s : R α).toS env f = .ex c v env s := rfl
@[simp] theorem R.toS_no {α : Type} (env : Env) (f : α → Sto → RS) : (R.no : R α).toS env f = .no := rfl

inductive Op where | add | sub | mul | fdv | mod | pow
  deriving DecidableEq
inductive Cm where | eq | ne | lt | le | gt | ge | isN | notN | inn | nin
  deriving DecidableEq
inductive Ty where | int | bool | str | tuple | list
  deriving DecidableEq
/-- built-ins of values -/
inductive B1 where | int | abs | len | repr | str | isi (t : Ty)
  deriving DecidableEq
/-- methods of lists, texts -/
inductive Mt where | append | extend | pop | popAt | insert | index | join | split | words
  deriving DecidableEq
inductive B2 where | min | max
  deriving DecidableEq
/-- built-ins of a sequence -/
inductive Bq where | all | any | sum | tuple | list | max | min | sorted
  deriving DecidableEq

/-- how a dict is gone along -/
inductive Ik where | items | keys | vals
  deriving DecidableEq
/-- a name, a tuple of names -/
inductive T1 where | a (i : Nat) | b (is : List Nat)
/-- a target; tn: tuples within a tuple -/
inductive Tg where | nm (i : Nat) | tp (is : List Nat) | tn (ts : List T1)

mutual
inductive E where
  | var (i : Nat) | con (d : D) | glo (d : D)
  | bin (op : Op) (a b : E) | neg (a : E)
  | not (a : E) | and (es : Es) | or (es : Es)
  | cmp (op : Cm) (a b : E) | chn (o1 o2 : Cm) (a b c : E)
  | ite (c a b : E)
  | tup (es : Es) | lst (es : Es)
  | tupx (fs : List Nat) (es : Es) | lstx (fs : List Nat) (es : Es)
  | fn (f : Nat) (es : Es) | fnk (f : Nat) (es : Es) (names : List PySem.Str) (perm : List Nat)
  | m (f : Mt) (a : E) (es : Es)
  | b1 (f : B1) (a : E) | b2 (f : B2) (a b : E) | bq (f : Bq) (a : E)
  | rng (es : Es) | lrg (es : Es) | zip (a b : E) | enu (a : E)
  | idx (a b : E) | slc (a lo hi : E) | rev (a : E)
  | lc (elt : E) (tg : Tg) (it : E) (own : List Nat)
  | lcf (elt c : E) (tg : Tg) (it : E) (own : List Nat)
  | dnw | dsp (es : Es) | dct (a : E) | dg2 (a b c : E) | dsd (a b c : E)
  | srk (a : E) (i : Nat)
  | fld (a : E) (c f : Str) | mk (f : Nat) (es : Es) | mt (f : Nat) (c m : Str) (a : E) (es : Es) | dnc (f : Nat) (c : Str) (neg : Bool) (a b : E)
  | itm (k : Ik) (a : E) | lset (a : E) | dead
  | dc (kx vx c : E) (tg : Tg) (it : E) (own : List Nat) | rep (es : Es) (b : E) | irg (a lo hi : E)
  | ise (a : E) (c : Str) | exv (a : E) | cll (i : Nat) | fwd (f i : Nat) (es : Es) | fnl (f n : Nat) (cs : List Nat) (es : Es) | prp (f : Nat) (c n : Str) (a : E)
inductive Es where | nil | cons (e : E) (es : Es)
end

mutual
inductive S where
  | asg (tg : Tg) (e : E) | sto (o i e : E) | par (is : List Nat) (es : Es)
  | expr (e : E) | ret (e : E) | pass | brk | cnt
  | aug (i : Nat) (sub : Bool) (e : E)
  | unl (is : List Nat) (e : E)
  | iff (c : E) (a b : Ss) | whl (c : E) (b : Ss) | fr (tg : Tg) (it : E) (b : Ss)
  | rais (c : String) (e : E) | tri (b : Ss) (i : Nat) (h : Ss)
  | sfd (a : E) (c f : Str) (e : E) | pf2 (c : Str) (a1 : E) (f1 : Str) (a2 : E) (f2 : Str) (es : Es) | dead
inductive Ss where | nil | cons (s : S) (r : Ss)
end

/-! ### values -/
/-- the items of a list, a tuple; is it a tuple -/
def sq (d : D) (s : Sto) : Option (Bool × List D) := match d with
  | .tup xs => some (true, xs)
  | .flst xs => some (false, xs)
  | .loc n => match s[n]? with
    | some (.lst xs) => some (false, xs)
    | _ => none
  | _ => none
def sizeMax : Nat := 16777216
def bigOk (i j : Int) : Bool := decide (i.natAbs.log2 + j.natAbs.log2 < 1000000)
def binI (op : Op) (i j : Int) : Option Int := match op with
  | .add => some (i + j)
  | .sub => some (i - j)
  | .mul => if bigOk i j then some (i * j) else none
  | .fdv => if 0 < j ∧ j.natAbs.log2 < 9000 then some (i / j) else none
  | .mod => if 0 < j then some (i % j) else none
  | .pow => if 0 ≤ j ∧ (PySem.Builtin.Int.intBits i : Int) * j ≤ 2 ^ 27 then some (i ^ j.toNat) else none
/-- the items of a list -/
def lstOf (d : D) (s : Sto) : Option (List D) := match d with
  | .flst xs => some xs
  | .loc n => match s[n]? with
    | some (.lst xs) => some xs
    | _ => none
  | _ => none
/-! ### dicts, instances -/
def keyOf : D → Option Ky
  | .int i => some (.inl i)
  | .str x => some (.inr x)
  | _ => none
def keyD : Ky → D
  | .inl i => .int i
  | .inr x => .str x
section
variable {κ : Type} [DecidableEq κ]
def kGet (kvs : List (κ × D)) (k : κ) : Option D := (kvs.find? fun kv => decide (kv.1 = k)).map (·.2)
def kPut (kvs : List (κ × D)) (k : κ) (v : D) : List (κ × D) :=
  if (kvs.any fun kv => decide (kv.1 = k)) = true then kvs.map (fun kv => if kv.1 = k then (kv.1, v) else kv) else kvs ++ [(k, v)]
end
def kMerge (kvs more : List (Ky × D)) : List (Ky × D) := more.foldl (fun acc kv => kPut acc kv.1 kv.2) kvs
def fPut (f : Str) (v : D) : List (Str × D) → List (Str × D)
  | [] => [(f, v)]
  | (g, x) :: r => if g = f then (g, v) :: r else (g, x) :: fPut f v r
def dicOf (d : D) (s : Sto) : Option (List (Ky × D)) := match d with
  | .fdk ks vs => some (ks.zip vs)
  | .loc n => match s[n]? with
    | some (.dk kvs) => some kvs
    | some (.lk kvs) => some kvs
    | _ => none
  | _ => none
def insOf (d : D) (s : Sto) : Option (Str × List (Str × D)) := match d with
  | .fins c fs vs => some (c, fs.zip vs)
  | .loc n => match s[n]? with
    | some (.ins c fs) => some (c, fs)
    | _ => none
  | _ => none
/-- keys and values, one behind the other -/
def pairsOf : List D → Option (List (Ky × D))
  | [] => some []
  | [_] => none
  | k :: v :: r => match keyOf k, pairsOf r with
    | some k, some l => some ((k, v) :: l)
    | _, _ => none
/-- pairs as tuples -/
def tupsOf : List D → Option (List (Ky × D))
  | [] => some []
  | .tup [k, v] :: r => match keyOf k, tupsOf r with
    | some k, some l => some ((k, v) :: l)
    | _, _ => none
  | _ :: _ => none
/-- a loop's source: fixed items, or the list at a place, looked at turn by turn; two of them side by side; one with its numbers -/
inductive Src where | fix (xs : List D) | at_ (n : Nat) (len : Nat) | zip (a b : Src) | enu (a : Src)
/-- what an expression gives: a value; a new list, not laid yet; a range; an iterator -/
inductive P where | val (d : D) | new (xs : List D) | rg (xs : List D) | it (s : Src)
/-- a list as a source -/
def lsrc (x : D) (s : Sto) : Option Src := match x with
  | .flst xs => some (.fix xs)
  | .loc n => match s[n]? with
    | some (.lst xs) => some (.at_ n xs.length)
    | _ => none
  | _ => none
def zipSrc (x y : D) (s : Sto) : Option Src := match x, y with
  | .tup a, .tup b => some (.zip (.fix a) (.fix b))
  | x, y => match lsrc x s, lsrc y s with
    | some p, some q => some (.zip p q)
    | _, _ => none
/-- what enumerate goes along -/
def esrc (x : D) (s : Sto) : Option Src := match x with
  | .tup xs => some (.fix xs)
  | x => lsrc x s
def addR (x y : D) (s : Sto) : Option P := match x, y with
  | .int i, .int j => some (.val (.int (i + j)))
  | .str a, .str b => if a.length + b.length ≤ sizeMax then some (.val (.str (a ++ b))) else none
  | .tup a, .tup b => if a.length + b.length ≤ sizeMax then some (.val (.tup (a ++ b))) else none
  | x, y => match lstOf x s, lstOf y s with
    | some a, some b => if a.length + b.length ≤ sizeMax then some (.new (a ++ b)) else none
    | _, _ => none
def binR (op : Op) (x y : D) (s : Sto) : Option P := match op with
  | .add => addR x y s
  | op => match x, y with
    | .int i, .int j => (binI op i j).map fun k => .val (.int k)
    | _, _ => none
def scalar : D → Bool
  | .non | .bl _ | .int _ | .str _ => true
  | _ => false
def scEq : D → D → Option Bool
  | .non, .non => some true
  | .bl a, .bl b => some (decide (a = b))
  | .int a, .int b => some (decide (a = b))
  | .str a, .str b => some (decide (a = b))
  | .non, .int _ => some false
  | .int _, .non => some false
  | .non, .str _ => some false
  | .str _, .non => some false
  | .non, .bl _ => some false
  | .bl _, .non => some false
  | .int _, .str _ => some false
  | .str _, .int _ => some false
  | _, _ => none
def cmpI (op : Cm) (i j : Int) : Option Bool := match op with
  | .eq => some (decide (i = j))
  | .ne => some (!decide (i = j))
  | .lt => some (decide (i < j))
  | .le => some (decide (i ≤ j))
  | .gt => some (decide (j < i))
  | .ge => some (decide (j ≤ i))
  | _ => none
def isNon : D → Bool
  | .non => true
  | _ => false
def truth (d : D) (s : Sto) : Option Bool := match d with
  | .bl b => some b
  | .non => some false
  | .int i => some (i != 0)
  | d => (sq d s).map fun q => !q.2.isEmpty
def R.ofO {α : Type} (o : Option α) (s : Sto) : R α := match o with
  | some a => .ok a s
  | none => .no
@[simp] theorem R.ofO_some {α : Type} (a : α) (s : Sto) : R.ofO (some a) s = .ok a s := rfl
@[simp] theorem R.ofO_none {α : Type} (s : Sto) : (R.ofO none s : R α) = .no := rfl
def isTy (t : Ty) (d : D) : Bool := match t, d with
  | .int, .int _ => true
  | .int, .bl _ => true
  | .bool, .bl _ => true
  | .str, .str _ => true
  | .tuple, .tup _ => true
  | .list, .flst _ => true
  | _, _ => false
/-- an instance of a written type: of what stands at a place, if it is a list -/
def isTyR (t : Ty) (d : D) (s : Sto) : Option Bool := match d with
  | .loc n => match s[n]? with
    | some (.lst _) => some (decide (t = .list))
    | some (.dk _) => some false
    | some (.lk _) => some false
    | _ => none
  | .fdk _ _ => some false
  | .fins _ _ _ => none
  | .exc _ _ => none
  | .clo _ _ => none
  | d => some (isTy t d)
def optAll {α : Type} : List (Option α) → Option (List α)
  | [] => some []
  | some a :: r => (optAll r).map (a :: ·)
  | none :: _ => none
/-- a tree as the model's plain data, so deep at most -/
def toPy (s : Sto) : Nat → D → Option PySem.PyData
  | _, .non => some .none
  | _, .bl b => some (.bool b)
  | _, .int i => some (.int i)
  | _, .str x => some (.str x)
  | n + 1, .tup xs => (optAll (xs.map (toPy s n))).map .tuple
  | n + 1, .flst xs => (optAll (xs.map (toPy s n))).map .list
  | n + 1, .loc k => match s[k]? with
    | some (.lst xs) => (optAll (xs.map (toPy s n))).map .list
    | _ => none
  | _, _ => none
/-! ### comparisons -/
def inStr (a b : Str) : Bool := match a.cps.toList with
  | [c] => decide (c ∈ b.cps.toList)
  | _ => !(PySem.Builtin.Str.occurrences b a 0 b.length 1).isEmpty
/-- == of scalars, as the items of a sequence are compared -/
def flatEq : D → D → Bool
  | .non, .non => true
  | .bl a, .bl b => a == b
  | .bl a, .int b => (if a then 1 else 0) == b
  | .int a, .bl b => a == (if b then 1 else 0)
  | .int a, .int b => a == b
  | .str a, .str b => a == b
  | _, _ => false
def eqR (x y : D) (s : Sto) : Option Bool := match scEq x y with
  | some b => some b
  | none => match toPy s 60 x, toPy s 60 y with
    | some p, some q => if PySem.SeqAt.shaped p && PySem.SeqAt.shaped q then some (PySem.PyData.eqv p q) else none
    | _, _ => none
/-- x in y, y a list, a tuple -/
def inSeq (x y : D) (s : Sto) : Option Bool := match sq y s with
  | some q => if scalar x && q.2.all scalar then some (q.2.any fun z => flatEq z x)
    else if q.1 then none else match toPy s 60 x, toPy s 60 y with
      | some p, some (.list qs) => if PySem.SeqAt.shaped p && PySem.SeqAt.shaped (.list qs) then some (qs.any fun z => PySem.PyData.eqv z p) else none
      | _, _ => none
  | none => none
def inR (x y : D) (s : Sto) : Option Bool := match y with
  | .str b => match x with
    | .str a => some (inStr a b)
    | _ => none
  | y => match dicOf y s with
    | some kvs => (keyOf x).map fun k => (kGet kvs k).isSome
    | none => inSeq x y s
def ordR (op : Cm) (x y : D) : Option Bool := match x, y with
  | .int i, .int j => cmpI op i j
  | .str a, .str b => match op with
    | .lt => some (decide (a.cps.toList < b.cps.toList))
    | .le => some (!decide (b.cps.toList < a.cps.toList))
    | _ => none
  | _, _ => none
def cmpop (op : Cm) (x y : D) (s : Sto) : Option Bool := match op with
  | .isN => if isNon y then some (isNon x) else none
  | .notN => if isNon y then some (!isNon x) else none
  | .eq => eqR x y s
  | .ne => (eqR x y s).map (!·)
  | .inn => inR x y s
  | .nin => (inR x y s).map (!·)
  | op => ordR op x y
def b1 (f : B1) (d : D) (s : Sto) : Option D := match f, d with
  | .int, .int i => some (.int i)
  | .int, .bl b => some (.int (if b then 1 else 0))
  | .int, .str x => if x.length ≤ 640 then (PySem.intText? x).map .int else none
  | .abs, .int i => some (.int (if i < 0 then -i else i))
  | .len, .str x => if x.length ≤ sizeMax then some (.int x.length) else none
  | .len, d => match sq d s with
    | some q => some (.int q.2.length)
    | none => (dicOf d s).map fun kvs => .int kvs.length
  | .repr, d => match toPy s 60 d with
    | some p => if p.showable && decide (p.shown.length ≤ sizeMax) then some (.str p.shown) else none
    | none => none
  | .str, .int i => if i.natAbs.log2 < 1920 then some (.str (PySem.Str.ofString (toString i))) else none
  | .str, .str x => some (.str x)
  | .isi t, d => (isTyR t d s).map .bl
  | _, _ => none
def b2 (f : B2) (x y : D) : Option D := match f, x, y with
  | .min, .int i, .int j => some (.int (if j < i then j else i))
  | .max, .int i, .int j => some (.int (if i < j then j else i))
  | _, _, _ => none
def boolsOf : List D → Option (List Bool)
  | [] => some []
  | .bl b :: r => (boolsOf r).map (b :: ·)
  | _ => none
def intsOf : List D → Option (List Int)
  | [] => some []
  | .int b :: r => (intsOf r).map (b :: ·)
  | _ => none
def maxI : List Int → Option Int
  | [] => none
  | x :: r => some (r.foldl (fun a b => if a < b then b else a) x)
def minI : List Int → Option Int
  | [] => none
  | x :: r => some (r.foldl (fun a b => if b < a then b else a) x)
def bq (f : Bq) (t : Bool) (xs : List D) : Option D := match f with
  | .tuple => some (.tup xs)
  | .list => none
  | .sorted => none
  | .all => if t then none else (boolsOf xs).map fun bs => .bl (bs.all id)
  | .any => if t then none else (boolsOf xs).map fun bs => .bl (bs.any id)
  | .sum => if t then none else (intsOf xs).map fun ns => .int ns.sum
  | .max => if t then none else (intsOf xs).bind fun ns => (maxI ns).map D.int
  | .min => if t then none else (intsOf xs).bind fun ns => (minI ns).map D.int
/-- x[i] -/
def item (xs : List D) (i : Int) : Option D := L2.atI xs i
/-- the signs of a text -/
def chars (x : Str) : List D := x.cps.toList.map fun c => .str ⟨#[c]⟩
/-- x[y] -/
def idxR (x y : D) (s : Sto) : Option D := match dicOf x s with
  | some kvs => (keyOf y).bind fun k => kGet kvs k
  | none => match y with
    | .int i => match x with
      | .str a => if a.length ≤ sizeMax then (L2.atI a.cps.toList i).map fun c => .str ⟨#[c]⟩ else none
      | x => (sq x s).bind fun q => item q.2 i
    | _ => none
/-- the parts of a slice -/
def slice (xs : List D) (lo hi : Option Int) : List D := (xs.drop (HT.sIx xs.length 0 lo)).take (HT.sIx xs.length xs.length hi - HT.sIx xs.length 0 lo)
def slcR (x : D) (lo hi : Option Int) (s : Sto) : Option P := match x with
  | .str a => if a.length ≤ sizeMax then some (.val (.str (L2.cutS a lo hi))) else none
  | x => (sq x s).map fun q => if q.1 = true then .val (.tup (slice q.2 lo hi)) else .new (slice q.2 lo hi)
/-- the place of the first item that is the same -/
def idxOf (x : D) : List D → Nat → Option Nat
  | [], _ => none
  | y :: r, n => if flatEq y x then some n else idxOf x r (n + 1)
def strsOf : List D → Option (List Str)
  | [] => some []
  | .str x :: r => (strsOf r).map (x :: ·)
  | _ => none
def Mt.isStr : Mt → Bool
  | .join | .split | .words => true
  | _ => false
/-- may it have the method -/
def mtTy (f : Mt) (x : D) (s : Sto) : Bool := if f.isStr then (match x with
    | .str _ => true
    | _ => false) else (lstOf x s).isSome
def mthR (f : Mt) (x : D) (ds : List D) (s : Sto) : Option (P × Sto) := match f with
  | .append => match x, ds with
    | .loc n, [d] => match s[n]? with
      | some (.lst xs) => if xs.length < sizeMax then some (.val .non, s.set n (.lst (xs ++ [d]))) else none
      | _ => none
    | _, _ => none
  | .extend => match x, ds with
    | .loc n, [d] => match s[n]?, lstOf d s with
      | some (.lst xs), some ys => if xs.length + ys.length ≤ sizeMax then some (.val .non, s.set n (.lst (xs ++ ys))) else none
      | _, _ => none
    | _, _ => none
  | .pop => match x, ds with
    | .loc n, [] => match s[n]? with
      | some (.lst xs) => match xs[xs.length - 1]? with
        | some d => some (.val d, s.set n (.lst xs.dropLast))
        | none => none
      | _ => none
    | _, _ => none
  | .popAt => match x, ds with
    | .loc n, [.int i] => match s[n]? with
      | some (.lst xs) => if 0 ≤ i ∧ i < 2 ^ 63 then (match xs[i.toNat]? with
        | some d => some (.val d, s.set n (.lst (xs.eraseIdx i.toNat)))
        | none => none) else none
      | _ => none
    | _, _ => none
  | .insert => match x, ds with
    | .loc n, [.int i, d] => match s[n]? with
      | some (.lst xs) => if xs.length < sizeMax ∧ 0 ≤ i ∧ i < 2 ^ 63 then some (.val .non, s.set n (.lst (xs.take i.toNat ++ [d] ++ xs.drop i.toNat))) else none
      | _ => none
    | _, _ => none
  | .index => match lstOf x s, ds with
    | some xs, [d] => if scalar d && xs.all scalar then (idxOf d xs 0).map fun (j : Nat) => (P.val (.int (j : Int)), s) else none
    | _, _ => none
  | .join => match x, ds with
    | .str a, [d] => match sq d s with
      | some q => match strsOf q.2 with
        | some ys => if (ys.map (·.length)).sum + ys.length * a.length ≤ sizeMax then some (.val (.str (PySem.Txt.join a ys)), s) else none
        | none => none
      | none => none
    | _, _ => none
  | .split => match x, ds with
    | .str a, [.str b] => if (b.length == 0) = false ∧ a.length + 2 ≤ sizeMax then some (.new ((PySem.Txt.split a b).map .str), s) else none
    | _, _ => none
  | .words => match x, ds with
    | .str a, [] => if a.length + 2 ≤ sizeMax then some (.new ((PySem.Txt.words a).map .str), s) else none
    | _, _ => none
def rangeOf : List D → Option (List D)
  | [.int n] => if n < 2 ^ 62 ∧ -(2 ^ 62) ≤ n then some ((List.range n.toNat).map fun (k : Nat) => D.int (k : Int)) else none
  | [.int a, .int n] => if n < 2 ^ 62 ∧ -(2 ^ 62) ≤ n ∧ a < 2 ^ 62 ∧ -(2 ^ 62) ≤ a then some ((List.range (n - a).toNat).map fun (k : Nat) => D.int (a + (k : Int))) else none
  | _ => none

/-- names of a comprehension forgotten -/
def wipe (env : Env) : List Nat → Env
  | [] => env
  | i :: r => (wipe env r).set i none
def setAll (env : Env) : List Nat → List D → Option Env
  | [], [] => some env
  | i :: is, d :: ds => setAll (env.set i (some d)) is ds
  | _, _ => none
def set1 (env : Env) : List T1 → List D → Option Env
  | [], [] => some env
  | t :: ts, d :: ds => match t with
    | .a i => set1 (env.set i (some d)) ts ds
    | .b is => match d with
      | .tup es => match setAll env is es with
        | some env' => set1 env' ts ds
        | none => none
      | _ => none
  | _, _ => none
def bindTg (tg : Tg) (d : D) (env : Env) : Option Env := match tg with
  | .tn ts => match d with
    | .tup ds => set1 env ts ds
    | _ => none
  | .nm i => some (env.set i (some d))
  | .tp is => match d with
    | .tup ds => setAll env is ds
    | _ => none


def mapR {β : Type} (f : D → Sto → R β) : List D → Sto → R (List β)
  | [], s => .ok [] s
  | d :: r, s => (f d s).bind fun x s1 => (mapR f r s1).bind fun xs s2 => .ok (x :: xs) s2
/-- the item of a turn; is it the end; how many turns -/
def srcGet : Src → Nat → Sto → Option D
  | .fix xs, i, _ => xs[i]?
  | .at_ n _, i, s => match s[n]? with
    | some (.lst xs) => xs[i]?
    | _ => none
  | .zip a b, i, s => match srcGet a i s, srcGet b i s with
    | some x, some y => some (.tup [x, y])
    | _, _ => none
  | .enu a, i, s => (srcGet a i s).map fun x => .tup [.int (i : Int), x]
/-- are they lists still -/
def srcOk : Src → Sto → Bool
  | .fix _, _ => true
  | .at_ n _, s => match s[n]? with
    | some (.lst _) => true
    | _ => false
  | .zip a b, s => srcOk a s && srcOk b s
  | .enu a, s => srcOk a s
def srcEnd : Src → Nat → Sto → Bool
  | .fix xs, i, _ => decide (xs.length ≤ i)
  | .at_ n _, i, s => match s[n]? with
    | some (.lst xs) => decide (xs.length ≤ i)
    | _ => false
  | .zip a b, i, s => (srcEnd a i s || srcEnd b i s) && (srcOk a s && srcOk b s)
  | .enu a, i, s => srcEnd a i s
def srcLen : Src → Nat
  | .fix xs => xs.length
  | .at_ _ k => k
  | .zip a b => min (srcLen a) (srcLen b)
  | .enu a => srcLen a
def mapG {β : Type} (f : D → Sto → R β) (src : Src) : Nat → Nat → Sto → R (List β)
  | 0, i, s => if srcEnd src i s = true then .ok [] s else .no
  | k + 1, i, s => match srcGet src i s with
    | some d => (f d s).bind fun x s1 => (mapG f src k (i + 1) s1).bind fun xs s2 => .ok (x :: xs) s2
    | none => .no
def mapSrc {β : Type} (f : D → Sto → R β) (src : Src) (s : Sto) : R (List β) := mapG f src (srcLen src) 0 s
theorem mapG_fix {β : Type} (f : D → Sto → R β) (xs : List D) : ∀ (k i : Nat) (s : Sto), k + i = xs.length → mapG f (.fix xs) k i s = mapR f (xs.drop i) s
  | 0, i, s, h => by
    rw [List.drop_of_length_le (by omega)]
    simp [mapG, mapR, srcEnd, (show xs.length ≤ i by omega)]
  | k + 1, i, s, h => by
    have hi : i < xs.length := by omega
    rw [List.drop_eq_getElem_cons hi]
    simp only [mapG, mapR, srcGet, List.getElem?_eq_getElem hi]
    congr 1
    funext x s1
    rw [mapG_fix f xs k (i + 1) s1 (by omega)]
@[simp] theorem mapSrc_fix {β : Type} (f : D → Sto → R β) (xs : List D) (s : Sto) : mapSrc f (.fix xs) s = mapR f xs s := by
  unfold mapSrc
  rw [mapG_fix f xs _ 0 s (by simp [srcLen])]
  rfl

/-- a loop's turns -/
def turns (f : D → Env → Sto → RS) : List D → Env → Sto → RS
  | [], env, s => .ok .nxt env s
  | d :: r, env, s => match f d env s with
    | .ok .nxt env' s' => turns f r env' s'
    | .ok .cnt env' s' => turns f r env' s'
    | .ok .brk env' s' => .ok .nxt env' s'
    | .ok (.ret v) env' s' => .ok (.ret v) env' s'
    | .ex c v env' s' => .ex c v env' s'
    | .no => .no
def turnsG (f : D → Env → Sto → RS) (src : Src) : Nat → Nat → Env → Sto → RS
  | 0, i, env, s => if srcEnd src i s = true then .ok .nxt env s else .no
  | k + 1, i, env, s => match srcGet src i s with
    | some d => match f d env s with
      | .ok .nxt env' s' => turnsG f src k (i + 1) env' s'
      | .ok .cnt env' s' => turnsG f src k (i + 1) env' s'
      | .ok .brk env' s' => .ok .nxt env' s'
      | .ok (.ret v) env' s' => .ok (.ret v) env' s'
      | .ex c v env' s' => .ex c v env' s'
      | .no => .no
    | none => .no
def turnsSrc (f : D → Env → Sto → RS) (src : Src) (env : Env) (s : Sto) : RS := turnsG f src (srcLen src) 0 env s
theorem turnsG_fix (f : D → Env → Sto → RS) (xs : List D) : ∀ (k i : Nat) (env : Env) (s : Sto), k + i = xs.length → turnsG f (.fix xs) k i env s = turns f (xs.drop i) env s
  | 0, i, env, s, h => by
    rw [List.drop_of_length_le (by omega)]
    simp [turnsG, turns, srcEnd, (show xs.length ≤ i by omega)]
  | k + 1, i, env, s, h => by
    have hi : i < xs.length := by omega
    rw [List.drop_eq_getElem_cons hi]
    simp only [turnsG, turns, srcGet, List.getElem?_eq_getElem hi]
    cases f xs[i] env s with
    | no => rfl
    | ex _ _ _ _ => rfl
    | ok fl env' s' => cases fl <;> simp only [turnsG_fix f xs k (i + 1) _ _ (by omega)]
@[simp] theorem turnsSrc_fix (f : D → Env → Sto → RS) (xs : List D) (env : Env) (s : Sto) : turnsSrc f (.fix xs) env s = turns f xs env s := by
  unfold turnsSrc
  rw [turnsG_fix f xs _ 0 env s (by simp [srcLen])]
  rfl
/-- while, at most so many turns -/
def whlN (c : Env → Sto → R Bool) (b : Env → Sto → RS) : Nat → Env → Sto → RS
  | 0, _, _ => .no
  | n + 1, env, s => match c env s with
    | .ok true s1 => match b env s1 with
      | .ok .nxt env' s' => whlN c b n env' s'
      | .ok .cnt env' s' => whlN c b n env' s'
      | .ok .brk env' s' => .ok .nxt env' s'
      | .ok (.ret v) env' s' => .ok (.ret v) env' s'
      | .ex c v env' s' => .ex c v env' s'
      | .no => .no
    | .ok false s1 => .ok .nxt env s1
    | .ex c v s' => .ex c v env s'
    | .no => .no
open Classical in
noncomputable def whl (c : Env → Sto → R Bool) (b : Env → Sto → RS) (env : Env) (s : Sto) : RS :=
  if h : ∃ n, whlN c b n env s ≠ .no then whlN c b h.choose env s else .no
theorem whlN_mono {c : Env → Sto → R Bool} {b : Env → Sto → RS} : ∀ {n m : Nat} {env : Env} {s : Sto}, whlN c b n env s ≠ .no → n ≤ m → whlN c b m env s = whlN c b n env s
  | 0, _, _, _, h, _ => absurd rfl h
  | n + 1, 0, _, _, _, hm => absurd hm (by omega)
  | n + 1, m + 1, env, s, h, hm => by
    unfold whlN at h ⊢
    cases hc : c env s with
    | no => rfl
    | ex _ _ _ => rfl
    | ok t s1 =>
      cases t with
      | false => rfl
      | true =>
        simp only [hc] at h ⊢
        cases hb : b env s1 with
        | no => rfl
        | ex _ _ _ _ => rfl
        | ok f env' s' =>
          cases f with
          | nxt => simp only [hb] at h ⊢; exact whlN_mono h (by omega)
          | cnt => simp only [hb] at h ⊢; exact whlN_mono h (by omega)
          | brk => rfl
          | ret _ => rfl
theorem whl_of {c : Env → Sto → R Bool} {b : Env → Sto → RS} {n : Nat} {env : Env} {s : Sto} {r : RS} (h : whlN c b n env s = r) (hr : r ≠ .no) : whl c b env s = r := by
  have hx : ∃ n, whlN c b n env s ≠ .no := ⟨n, by rw [h]; exact hr⟩
  unfold whl
  rw [dif_pos hx]
  have h2 := hx.choose_spec
  rcases Nat.le_total n hx.choose with l | l
  · rw [whlN_mono (by rw [h]; exact hr) l, h]
  · rw [← whlN_mono h2 l, h]
theorem whl_fuel {c : Env → Sto → R Bool} {b : Env → Sto → RS} {env : Env} {s : Sto} (h : whl c b env s ≠ .no) : ∃ n, whlN c b n env s = whl c b env s := by
  unfold whl at h ⊢
  split
  · rename_i hx; exact ⟨_, rfl⟩
  · rename_i hx; rw [dif_neg hx] at h; exact absurd rfl h
/-- one turn -/
theorem whl_eq (c : Env → Sto → R Bool) (b : Env → Sto → RS) (env : Env) (s : Sto) : whl c b env s = (match c env s with
    | .ok true s1 => match b env s1 with
      | .ok .nxt env' s' => whl c b env' s'
      | .ok .cnt env' s' => whl c b env' s'
      | .ok .brk env' s' => .ok .nxt env' s'
      | .ok (.ret v) env' s' => .ok (.ret v) env' s'
      | .ex c v env' s' => .ex c v env' s'
      | .no => .no
    | .ok false s1 => .ok .nxt env s1
    | .ex c v s' => .ex c v env s'
    | .no => .no) := by
  have zero : ∀ {e s' r}, whl c b e s' = r → r ≠ .no → ∃ n, whlN c b n e s' = r := fun h1 h2 => by
    obtain ⟨n, e⟩ := whl_fuel (by rw [h1]; exact h2)
    exact ⟨n, e.trans h1⟩
  have none_of : ∀ {e s'}, (∀ n, whlN c b n e s' = .no) → whl c b e s' = .no := fun h => by
    unfold whl
    rw [dif_neg fun ⟨n, hn⟩ => hn (h n)]
  cases hc : c env s with
  | no => exact none_of fun n => by cases n <;> simp [whlN, hc]
  | ex c' v s' => exact whl_of (n := 1) (by simp [whlN, hc]) (fun z => nomatch z)
  | ok t s1 =>
    cases t with
    | false => exact whl_of (n := 1) (by simp [whlN, hc]) (fun z => nomatch z)
    | true =>
      dsimp only
      cases hb : b env s1 with
      | no => exact none_of fun n => by cases n <;> simp [whlN, hc, hb]
      | ex c' v e' s' => exact whl_of (n := 1) (by simp [whlN, hc, hb]) (fun z => nomatch z)
      | ok f env' s' =>
        have again : (∀ n, whlN c b (n + 1) env s = whlN c b n env' s') → whl c b env s = whl c b env' s' := fun hn => by
          by_cases z : whl c b env' s' = .no
          · rw [z]
            refine none_of fun n => ?_
            cases n with
            | zero => rfl
            | succ n =>
              rw [hn]
              cases q : whlN c b n env' s' with
              | no => rfl
              | ok _ _ _ => rw [whl_of q (fun z => nomatch z)] at z; cases z
              | ex _ _ _ _ => rw [whl_of q (fun z => nomatch z)] at z; cases z
          · obtain ⟨n, e⟩ := whl_fuel z
            exact whl_of (n := n + 1) ((hn n).trans e) z
        cases f with
        | brk => exact whl_of (n := 1) (by simp [whlN, hc, hb]) (fun z => nomatch z)
        | ret v => exact whl_of (n := 1) (by simp [whlN, hc, hb]) (fun z => nomatch z)
        | nxt => exact again fun n => by simp [whlN, hc, hb]
        | cnt => exact again fun n => by simp [whlN, hc, hb]

def isNonE : E → Bool
  | .con .non => true
  | _ => false
/-- a part of a slice: left out, or an int -/
def part (e : E) (d : D) : Option (Option Int) := match d with
  | .int i => if isNonE e = true then none else some (some i)
  | .non => if isNonE e = true then some none else none
  | _ => none
/-- what functions do -/
abbrev Orc := Nat → List D → Sto → R D
def lay (p : P) (s : Sto) : R D := match p with
  | .val d => .ok d s
  | .new xs => .ok (.loc s.length) (s ++ [.lst xs])
  | .rg _ => .no
  | .it _ => .no
def R.bindv {β : Type} (r : R P) (f : D → Sto → R β) : R β := (r.bind lay).bind f
def sqP (p : P) (s : Sto) : Option (Bool × List D) := match p with
  | .val d => sq d s
  | .new xs => some (false, xs)
  | .rg _ => none
  | .it _ => none
def R.bindq {β : Type} (r : R P) (f : Bool × List D → Sto → R β) : R β := r.bind fun p s => (R.ofO (sqP p s) s).bind f
/-- list(p): of a dict, its keys -/
def listOf (p : P) (s : Sto) : Option (List D) := match p with
  | .new xs => some xs
  | .val d => match sq d s with
    | some q => some q.2
    | none => (dicOf d s).map fun kvs => kvs.map fun q => keyD q.1
  | _ => none
def srcP (p : P) (s : Sto) : Option Src := match p with
  | .val (.tup xs) => some (.fix xs)
  | .val (.flst xs) => some (.fix xs)
  | .val (.str x) => some (.fix (chars x))
  | .val (.loc n) => match s[n]? with
    | some (.lst xs) => some (.at_ n xs.length)
    | _ => none
  | .val (.fdk ks _) => some (.fix (ks.map keyD))
  | .val _ => none
  | .new xs => some (.fix xs)
  | .rg xs => some (.fix xs)
  | .it src => some src
@[simp] theorem R.bindv_val {β : Type} (d : D) (s : Sto) (f : D → Sto → R β) : (R.ok (P.val d) s).bindv f = f d s := rfl
@[simp] theorem R.bindv_ex {β : Type} (c : String) (v : D) (s : Sto) (f : D → Sto → R β) : (R.ex c v s : R P).bindv f = .ex c v s := rfl
@[simp] theorem R.bindv_no {β : Type} (f : D → Sto → R β) : (R.no : R P).bindv f = .no := rfl
@[simp] theorem R.bindq_ok {β : Type} (p : P) (s : Sto) (f : Bool × List D → Sto → R β) : (R.ok p s).bindq f = (R.ofO (sqP p s) s).bind f := rfl
@[simp] theorem R.bindq_ex {β : Type} (c : String) (v : D) (s : Sto) (f : Bool × List D → Sto → R β) : (R.ex c v s : R P).bindq f = .ex c v s := rfl
@[simp] theorem R.bindq_no {β : Type} (f : Bool × List D → Sto → R β) : (R.no : R P).bindq f = .no := rfl
def okv (d : D) (s : Sto) : R P := .ok (.val d) s
@[simp] theorem okv_eq (d : D) (s : Sto) : okv d s = .ok (.val d) s := rfl
def ofOv (o : Option D) (s : Sto) : R P := match o with
  | some d => .ok (.val d) s
  | none => .no
@[simp] theorem ofOv_some (d : D) (s : Sto) : ofOv (some d) s = .ok (.val d) s := rfl
@[simp] theorem ofOv_none (s : Sto) : ofOv none s = .no := rfl
def ofOP (o : Option P) (s : Sto) : R P := match o with
  | some p => .ok p s
  | none => .no
@[simp] theorem ofOP_some (p : P) (s : Sto) : ofOP (some p) s = .ok p s := rfl
@[simp] theorem ofOP_none (s : Sto) : ofOP none s = .no := rfl
/-- a turn of a comprehension: its names are bound -/
def turnC (tg : Tg) (own : List Nat) (env : Env) (f : Env → Sto → R P) (d : D) (s : Sto) : R D := match bindTg tg d (wipe env own) with
  | some env' => ((f env' s).bind lay).nox
  | none => .no
/-- a turn of a comprehension with a condition -/
def turnX (tg : Tg) (own : List Nat) (env : Env) (c : Env → Sto → R Bool) (f : Env → Sto → R P) (d : D) (s : Sto) : R (Option D) := match bindTg tg d (wipe env own) with
  | some env' => ((c env' s).bind fun b s1 => if b = true then ((f env' s1).bind lay).bind fun d s2 => .ok (some d) s2 else .ok none s1).nox
  | none => .no
/-- a turn of a dict comprehension -/
def turnK (tg : Tg) (own : List Nat) (env : Env) (c : Env → Sto → R Bool) (f g : Env → Sto → R P) (d : D) (s : Sto) : R (Option (Ky × D)) := match bindTg tg d (wipe env own) with
  | some env' => ((c env' s).bind fun b s1 => if b = true then ((f env' s1).bind lay).bind fun kd s2 => (match keyOf kd with
      | some k => ((g env' s2).bind lay).bind fun v s3 => .ok (some (k, v)) s3
      | none => .no) else .ok none s1).nox
  | none => .no
/-- what a star spreads -/
def spr (p : P) (s : Sto) : R (List D) := match p with
  | .val d => match sq d s with
    | some q => .ok q.2 s
    | none => .no
  | .new xs => .ok xs s
  | _ => .no
def inRg (x y z : D) : Option Bool := match x, y, z with
  | .int i, .int l, .int h => some (decide (l ≤ i ∧ i < h))
  | _, _, _ => none
def turnF (tg : Tg) (f : Env → Sto → RS) (d : D) (env : Env) (s : Sto) : RS := match bindTg tg d env with
  | some env' => f env' s
  | none => .no
/-- the unlike ones -/
def dedS (xs : List Str) : List Str := xs.foldl (fun l x => if x ∈ l then l else l ++ [x]) []
/-- d.setdefault(y, z) -/
def setd (x y z : D) (s : Sto) : Option (D × Sto) := match x, keyOf y with
  | .loc n, some k => match s[n]? with
    | some (.dk kvs) => if kvs.length < sizeMax then (match kGet kvs k with
      | some v => some (v, s)
      | none => some (z, s.set n (.dk (kPut kvs k z)))) else none
    | _ => none
  | _, _ => none
/-- the items of a walk along a dict -/
def walkL (k : Ik) (kvs : List (Ky × D)) : List D := match k with
  | .keys => kvs.map fun q => keyD q.1
  | .vals => kvs.map (·.2)
  | .items => kvs.map fun q => .tup [keyD q.1, q.2]
/-- a dict, gone along: from now on nobody changes it -/
def walkOf (k : Ik) (d : D) (s : Sto) : Option (List D × Sto) := match d with
  | .fdk ks vs => match k with
    | .keys => some (ks.map keyD, s)
    | .vals => some (vs, s)
    | .items => some ((ks.zip vs).map fun q => .tup [keyD q.1, q.2], s)
  | .loc n => match s[n]? with
    | some (.dk kvs) => some (walkL k kvs, s.set n (.lk kvs))
    | some (.lk kvs) => some (walkL k kvs, s)
    | _ => none
  | _ => none
/-- x[y] = d -/
def putR (x y d : D) (s : Sto) : Option Sto := match x with
  | .loc n => match s[n]? with
    | some (.lst xs) => match y with
      | .int k => if 0 ≤ k ∧ k.toNat < xs.length then some (s.set n (.lst (xs.set k.toNat d))) else none
      | _ => none
    | some (.dk kvs) => match keyOf y with
      | some k => if kvs.length < sizeMax then some (s.set n (.dk (kPut kvs k d))) else none
      | none => none
    | _ => none
  | _ => none
/-- x.f = d -/
def fputR (c f : Str) (x d : D) (s : Sto) : Option Sto := match x with
  | .loc n => match s[n]? with
    | some (.ins c' fs) => if c' = c ∧ fs.length < 1000 then some (s.set n (.ins c (fPut f d fs))) else none
    | _ => none
  | _ => none
/-- these of a list, in that order -/
def permOf {α : Type} (ds : List α) : List Nat → Option (List α)
  | [] => some []
  | i :: r => match ds[i]?, permOf ds r with
    | some d, some l => some (d :: l)
    | _, _ => none
mutual
/-- the same tree -/
def D.same : D → D → Bool
  | .non, .non => true
  | .bl a, .bl b => decide (a = b)
  | .int a, .int b => decide (a = b)
  | .str a, .str b => decide (a = b)
  | .tup a, .tup b => D.sameL a b
  | .flst a, .flst b => D.sameL a b
  | _, _ => false
def D.sameL : List D → List D → Bool
  | [], [] => true
  | a :: r, b :: t => a.same b && D.sameL r t
  | _, _ => false
end
mutual
theorem D.same_eq : ∀ {a b : D}, a.same b = true → a = b
  | .non, b, h => by cases b <;> first | rfl | (unfold D.same at h; cases h)
  | .bl x, b, h => by
    cases b <;> first | (unfold D.same at h; cases h; done) | skip
    unfold D.same at h
    rw [of_decide_eq_true h]
  | .int x, b, h => by
    cases b <;> first | (unfold D.same at h; cases h; done) | skip
    unfold D.same at h
    rw [of_decide_eq_true h]
  | .str x, b, h => by
    cases b <;> first | (unfold D.same at h; cases h; done) | skip
    unfold D.same at h
    rw [of_decide_eq_true h]
  | .tup x, b, h => by
    cases b <;> first | (unfold D.same at h; cases h; done) | skip
    unfold D.same at h
    rw [D.sameL_eq h]
  | .flst x, b, h => by
    cases b <;> first | (unfold D.same at h; cases h; done) | skip
    unfold D.same at h
    rw [D.sameL_eq h]
  | .loc x, b, h => by cases b <;> (unfold D.same at h; cases h)
  | .fdk _ _, b, h => by cases b <;> (unfold D.same at h; cases h)
  | .fins _ _ _, b, h => by cases b <;> (unfold D.same at h; cases h)
  | .exc _ _, b, h => by cases b <;> (unfold D.same at h; cases h)
  | .clo _ _, b, h => by cases b <;> (unfold D.same at h; cases h)
theorem D.sameL_eq : ∀ {a b : List D}, D.sameL a b = true → a = b
  | [], [], _ => rfl
  | [], _ :: _, h => by unfold D.sameL at h; cases h
  | _ :: _, [], h => by unfold D.sameL at h; cases h
  | a :: r, b :: t, h => by
    unfold D.sameL at h
    rw [Bool.and_eq_true] at h
    rw [D.same_eq h.1, D.sameL_eq h.2]
end
/-- is an error of that class an instance of that name -/
def excIs (d : String) (c : Str) : Bool := decide (c = "QueueError") || decide (c = "ValueError") || decide (c = Str.ofString d)
/-- what these names hold -/
def capt (env : Env) : List Nat → Option (List D)
  | [] => some []
  | i :: r => match env[i]?, capt env r with
    | some (some d), some l => some (d :: l)
    | _, _ => none
/-- the whole number at that place of a tuple -/
def keyAt (i : Nat) : D → Int
  | .tup ds => match ds[i]? with
    | some (.int k) => k
    | _ => 0
  | _ => 0
def keyed (i : Nat) : D → Bool
  | .tup ds => match ds[i]? with
    | some (.int _) => true
    | _ => false
  | _ => false
/-- sorted by it, what is alike as it stood -/
def srtK (i : Nat) (xs : List D) : List D := xs.mergeSort fun a b => decide (keyAt i a ≤ keyAt i b)
mutual
def ev (o : Orc) : E → Env → Sto → R P
  | .var i, env, s => match env[i]? with
    | some (some d) => okv d s
    | _ => .no
  | .con d, _, s => okv d s
  | .glo d, _, s => okv d s
  | .bin op a b, env, s => (ev o a env s).bindv fun x s1 => (ev o b env s1).bindv fun y s2 => ofOP (binR op x y s2) s2
  | .neg a, env, s => (ev o a env s).bindv fun x s1 => match x with
    | .int i => okv (.int (-i)) s1
    | _ => .no
  | .not a, env, s => (ev o a env s).bindv fun x s1 => (R.ofO (truth x s1) s1).bind fun b s2 => okv (.bl (!b)) s2
  | .and es, env, s => evAnd o es env s
  | .or es, env, s => evOr o es env s
  | .cmp op a b, env, s => (ev o a env s).bindv fun x s1 => (ev o b env s1).bindv fun y s2 => (R.ofO (cmpop op x y s2) s2).bind fun b s3 => okv (.bl b) s3
  | .chn o1 o2 a b c, env, s => (ev o a env s).bindv fun x s1 => (ev o b env s1).bindv fun y s2 => match cmpop o1 x y s2 with
    | some true => (ev o c env s2).bindv fun z s3 => (R.ofO (cmpop o2 y z s3) s3).bind fun b s4 => okv (.bl b) s4
    | some false => okv (.bl false) s2
    | none => .no
  | .ite c a b, env, s => (ev o c env s).bindv fun x s1 => match truth x s1 with
    | some true => ev o a env s1
    | some false => ev o b env s1
    | none => .no
  | .tup es, env, s => (evs o es env s).bind fun ds s1 => if ds.length ≤ sizeMax then okv (.tup ds) s1 else .no
  | .lst es, env, s => (evs o es env s).bind fun ds s1 => if ds.length ≤ sizeMax then .ok (.new ds) s1 else .no
  | .tupx fs es, env, s => (evx o es fs env s).bind fun ds s1 => if ds.length ≤ sizeMax then okv (.tup ds) s1 else .no
  | .lstx fs es, env, s => (evx o es fs env s).bind fun ds s1 => if ds.length ≤ sizeMax then .ok (.new ds) s1 else .no
  | .fn f es, env, s => (evs o es env s).bind fun ds s1 => (o f ds s1).bind fun d s2 => okv d s2
  | .fnk f es _ p, env, s => (evs o es env s).bind fun ds s1 => (R.ofO (permOf ds p) s1).bind fun ds s2 => (o f ds s2).bind fun d s3 => okv d s3
  | .m f a es, env, s => (ev o a env s).bindv fun x s1 => if mtTy f x s1 = true then (evs o es env s1).bind fun ds s2 => (match mthR f x ds s2 with
    | some r => .ok r.1 r.2
    | none => .no) else .no
  | .b1 f a, env, s => (ev o a env s).bindv fun x s1 => ofOv (b1 f x s1) s1
  | .b2 f a b, env, s => (ev o a env s).bindv fun x s1 => (ev o b env s1).bindv fun y s2 => ofOv (b2 f x y) s2
  | .bq f a, env, s => if f = .list then ((ev o a env s).bind fun p s1 => match listOf p s1 with
      | some xs => .ok (.new xs) s1
      | none => .no) else (ev o a env s).bindq fun q s1 => match f with
      | .sorted => if q.1 then .no else match intsOf q.2 with
        | some ns => .ok (.new ((ns.mergeSort fun a b => decide (a ≤ b)).map .int)) s1
        | none => .no
      | f => ofOv (bq f q.1 q.2) s1
  | .rng es, env, s => (evs o es env s).bind fun ds s1 => (R.ofO (rangeOf ds) s1).bind fun xs s2 => .ok (.rg xs) s2
  | .zip a b, env, s => (ev o a env s).bindv fun x s1 => (ev o b env s1).bindv fun y s2 => match zipSrc x y s2 with
    | some src => .ok (.it src) s2
    | none => .no
  | .enu a, env, s => (ev o a env s).bindv fun x s1 => match esrc x s1 with
    | some src => .ok (.it (.enu src)) s1
    | none => .no
  | .lrg es, env, s => (evs o es env s).bind fun ds s1 => (R.ofO (rangeOf ds) s1).bind fun xs s2 => if xs.length ≤ sizeMax then .ok (.new xs) s2 else .no
  | .idx a b, env, s => (ev o a env s).bindv fun x s1 => (ev o b env s1).bindv fun y s2 => ofOv (idxR x y s2) s2
  | .slc a lo hi, env, s => (ev o a env s).bindv fun x s1 => ((ev o lo env s1).bindv fun d s2 => R.ofO (part lo d) s2).bind fun l s2 => ((ev o hi env s2).bindv fun d s3 => R.ofO (part hi d) s3).bind fun h s3 => ofOP (slcR x l h s3) s3
  | .rev a, env, s => (ev o a env s).bindv fun x s1 => match lstOf x s1 with
    | some xs => .ok (.new xs.reverse) s1
    | none => .no
  | .lc elt tg it own, env, s => (ev o it env s).bind fun p s1 => (R.ofO (srcP p s1) s1).bind fun src s2 =>
      (mapSrc (turnC tg own env fun env' s => ev o elt env' s) src s2).bind fun ds s3 => if ds.length ≤ sizeMax then .ok (.new ds) s3 else .no
  | .lcf elt c tg it own, env, s => (ev o it env s).bind fun p s1 => (R.ofO (srcP p s1) s1).bind fun src s2 =>
      (mapSrc (turnX tg own env (fun env' s => (ev o c env' s).bindv fun d s1 => R.ofO (truth d s1) s1) fun env' s => ev o elt env' s) src s2).bind fun ds s3 => if ds.length ≤ sizeMax then .ok (.new (ds.filterMap id)) s3 else .no
  | .dnw, _, s => okv (.loc s.length) (s ++ [.dk []])
  | .dsp es, env, s => (evs o es env s).bind fun ds s1 => match pairsOf ds with
    | some kvs => okv (.loc s1.length) (s1 ++ [.dk (kMerge [] kvs)])
    | none => .no
  | .dct a, env, s => (ev o a env s).bindq fun q s1 => if q.1 then .no else match tupsOf q.2 with
    | some kvs => okv (.loc s1.length) (s1 ++ [.dk (kMerge [] kvs)])
    | none => .no
  | .dg2 a b c, env, s => (ev o a env s).bindv fun x s1 => match dicOf x s1 with
    | some _ => (ev o b env s1).bindv fun y s2 => (ev o c env s2).bindv fun z s3 => match dicOf x s3, keyOf y with
      | some kvs, some k => okv ((kGet kvs k).getD z) s3
      | _, _ => .no
    | none => .no
  | .dsd a b c, env, s => (ev o a env s).bindv fun x s1 => match dicOf x s1 with
    | some _ => (ev o b env s1).bindv fun y s2 => (ev o c env s2).bindv fun z s3 => match setd x y z s3 with
      | some r => okv r.1 r.2
      | none => .no
    | none => .no
  | .fld a c f, env, s => (ev o a env s).bindv fun x s1 => match insOf x s1 with
    | some q => if q.1 = c then (match q.2.lookup f with
      | some d => okv d s1
      | none => .no) else .no
    | none => .no
  | .mk f es, env, s => (evs o es env s).bind fun ds s1 => (o f ds s1).bind fun d s2 => okv d s2
  | .mt f c m a es, env, s => (ev o a env s).bindv fun x s1 => match insOf x s1 with
    | some q => if q.1 = c ∧ q.2.lookup m = none then (evs o es env s1).bind fun ds s2 => (o f (x :: ds) s2).bind fun d s3 => okv d s3 else .no
    | none => .no
  | .dnc f c neg a b, env, s => (ev o a env s).bindv fun x s1 => (ev o b env s1).bindv fun y s2 => match insOf y s2 with
    | some q => if q.1 = c then (o f [y, x] s2).nox.bind fun r s3 => (match r with
      | .bl t => okv (.bl (if neg then !t else t)) s3
      | _ => .no) else .no
    | none => .no
  | .itm k a, env, s => (ev o a env s).bindv fun x s1 => match walkOf k x s1 with
    | some q => .ok (.it (.fix q.1)) q.2
    | none => .no
  | .dc kx vx c tg it own, env, s => (ev o it env s).bind fun p s1 => (R.ofO (srcP p s1) s1).bind fun src s2 =>
      (mapSrc (turnK tg own env (fun env' s => (ev o c env' s).bindv fun d s1 => R.ofO (truth d s1) s1) (fun env' s => ev o kx env' s) fun env' s => ev o vx env' s) src s2).bind fun ds s3 =>
        if ds.length ≤ sizeMax then okv (.loc s3.length) (s3 ++ [.dk (kMerge [] (ds.filterMap id))]) else .no
  | .irg a lo hi, env, s => (ev o a env s).bindv fun x s1 => (ev o lo env s1).bindv fun y s2 => (ev o hi env s2).bindv fun z s3 => (R.ofO (inRg x y z) s3).bind fun b s4 => okv (.bl b) s4
  | .rep es b, env, s => (evs o es env s).bind fun ds s1 => if ds.length ≤ sizeMax then ((ev o b env s1).bindv fun y s2 => match y with
    | .int k => if -(2 ^ 63) ≤ k ∧ k < 2 ^ 63 ∧ ds.length * k.toNat ≤ sizeMax then .ok (.new (List.replicate k.toNat ds).flatten) s2 else .no
    | _ => .no) else .no
  | .srk a i, env, s => (ev o a env s).bindq fun q s1 => if q.1 then .no else if q.2.all (keyed i) then .ok (.new (srtK i q.2)) s1 else .no
  | .lset a, env, s => (ev o a env s).bindq fun q s1 => match strsOf q.2 with
    | some ys => if q.1 = true ∧ ys.length < 4000 then okv (.int (dedS ys).length) s1 else .no
    | none => .no
  | .ise a c, env, s => (ev o a env s).bindv fun x s1 => match x with
    | .exc d _ => okv (.bl (excIs d c)) s1
    | _ => .no
  | .exv a, env, s => (ev o a env s).bindv fun x s1 => match x with
    | .exc _ v => okv v s1
    | _ => .no
  | .cll i, env, s => match env[i]? with
    | some (some (.clo n ds)) => (o n ds s).bind fun d s1 => okv d s1
    | _ => .no
  | .fwd f i es, env, s => match env[i]? with
    | some (some (.clo n ds)) => (evs o es env s).bind fun ds' s1 => (o f (.clo n ds :: ds') s1).bind fun d s2 => okv d s2
    | _ => .no
  | .fnl f n cs es, env, s => match capt env cs with
    | some ds => (evs o es env s).bind fun ds' s1 => (o f (.clo n ds :: ds') s1).bind fun d s2 => okv d s2
    | none => .no
  | .prp f c _ a, env, s => (ev o a env s).bindv fun x s1 => match insOf x s1 with
    | some q => if q.1 = c then (o f [x] s1).nox.bind fun d s2 => okv d s2 else .no
    | none => .no
  | .dead, _, _ => .no
def evAnd (o : Orc) : Es → Env → Sto → R P
  | .nil, _, _ => .no
  | .cons e r, env, s => match r with
    | .nil => ev o e env s
    | .cons _ _ => (ev o e env s).bindv fun x s1 => match truth x s1 with
      | some true => evAnd o r env s1
      | some false => okv x s1
      | none => .no
def evOr (o : Orc) : Es → Env → Sto → R P
  | .nil, _, _ => .no
  | .cons e r, env, s => match r with
    | .nil => ev o e env s
    | .cons _ _ => (ev o e env s).bindv fun x s1 => match truth x s1 with
      | some false => evOr o r env s1
      | some true => okv x s1
      | none => .no
/-- a display's items, some of them starred: 1 a sequence, 2 the values of a dict -/
def evx (o : Orc) : Es → List Nat → Env → Sto → R (List D)
  | .nil, _, _, s => .ok [] s
  | .cons e r, fs, env, s => match fs.headD 0 with
      | 0 => (ev o e env s).bindv fun x s1 => (evx o r fs.tail env s1).bind fun ds s2 => .ok (x :: ds) s2
      | 1 => ((ev o e env s).bind spr).bind fun xs s1 => (evx o r fs.tail env s1).bind fun ds s2 => .ok (xs ++ ds) s2
      | _ => (ev o e env s).bindv fun x s1 => match dicOf x s1 with
        | some kvs => (evx o r fs.tail env s1).bind fun ds s2 => .ok (kvs.map (·.2) ++ ds) s2
        | none => .no
def evs (o : Orc) : Es → Env → Sto → R (List D)
  | .nil, _, s => .ok [] s
  | .cons e r, env, s => (ev o e env s).bindv fun d s1 => (evs o r env s1).bind fun ds s2 => .ok (d :: ds) s2
end
def Es.len : Es → Nat
  | .nil => 0
  | .cons _ r => r.len + 1
theorem evs_len (o : Orc) : ∀ (es : Es) (env : Env) (s : Sto) (ds : List D) (s' : Sto), evs o es env s = .ok ds s' → ds.length = es.len
  | .nil, env, s, ds, s', h => by simp only [evs, R.ok.injEq] at h; rw [← h.1]; rfl
  | .cons e r, env, s, ds, s', h => by
    simp only [evs, R.bindv] at h
    cases q : (ev o e env s).bind lay with
    | no => rw [q] at h; cases h
    | ex _ _ _ => rw [q] at h; cases h
    | ok d s1 =>
      rw [q] at h
      simp only [R.bind_ok] at h
      cases q2 : evs o r env s1 with
      | no => rw [q2] at h; cases h
      | ex _ _ _ => rw [q2] at h; cases h
      | ok l s2 =>
        rw [q2] at h
        simp only [R.bind_ok, R.ok.injEq] at h
        rw [← h.1, List.length_cons, evs_len o r env s1 l s2 q2]
        rfl
/-- an expression's value, its truth -/
def evv (o : Orc) (e : E) (env : Env) (s : Sto) : R D := (ev o e env s).bind lay
def tst (o : Orc) (e : E) (env : Env) (s : Sto) : R Bool := (ev o e env s).bindv fun d s1 => R.ofO (truth d s1) s1
def evi (o : Orc) (e : E) (env : Env) (s : Sto) : R Src := (ev o e env s).bind fun p s1 => R.ofO (srcP p s1) s1

theorem tst_not (o : Orc) (a : E) (env : Env) (s : Sto) : tst o (.not a) env s = (tst o a env s).bind fun b s1 => .ok (!b) s1 := by
  unfold tst
  rw [ev]
  unfold R.bindv
  cases (ev o a env s).bind lay with
  | no => rfl
  | ex c d s' => rfl
  | ok d s' =>
    simp only [R.bind_ok]
    cases truth d s' <;> rfl
theorem tst_and (o : Orc) (a b : E) (r : Es) (env : Env) (s : Sto) : tst o (.and (.cons a (.cons b r))) env s = (tst o a env s).bind fun c s1 => if c = true then tst o (.and (.cons b r)) env s1 else .ok false s1 := by
  unfold tst
  simp only [ev]
  rw [evAnd]
  unfold R.bindv
  cases (ev o a env s).bind lay with
  | no => rfl
  | ex c d s' => rfl
  | ok d s' =>
    simp only [R.bind_ok]
    cases h : truth d s' with
    | none => rfl
    | some q => cases q <;> simp [h, lay]
theorem tst_and1 (o : Orc) (a : E) (env : Env) (s : Sto) : tst o (.and (.cons a .nil)) env s = tst o a env s := by
  unfold tst
  simp only [ev]
  rw [evAnd]
theorem tst_or (o : Orc) (a b : E) (r : Es) (env : Env) (s : Sto) : tst o (.or (.cons a (.cons b r))) env s = (tst o a env s).bind fun c s1 => if c = true then .ok true s1 else tst o (.or (.cons b r)) env s1 := by
  unfold tst
  simp only [ev]
  rw [evOr]
  unfold R.bindv
  cases (ev o a env s).bind lay with
  | no => rfl
  | ex c d s' => rfl
  | ok d s' =>
    simp only [R.bind_ok]
    cases h : truth d s' with
    | none => rfl
    | some q => cases q <;> simp [h, lay]
theorem tst_or1 (o : Orc) (a : E) (env : Env) (s : Sto) : tst o (.or (.cons a .nil)) env s = tst o a env s := by
  unfold tst
  simp only [ev]
  rw [evOr]

mutual
noncomputable def evS (o : Orc) : S → Env → Sto → RS
  | .asg tg e, env, s => (evv o e env s).toS env fun d s1 => match bindTg tg d env with
    | some env' => .ok .nxt env' s1
    | none => .no
  | .sto a i e, env, s => (evv o e env s).toS env fun d s1 => (evv o a env s1).toS env fun x s2 => (evv o i env s2).toS env fun y s3 => match putR x y d s3 with
    | some s4 => .ok .nxt env s4
    | none => .no
  | .par is es, env, s => (evs o es env s).toS env fun ds s1 => match setAll env is ds with
    | some env' => .ok .nxt env' s1
    | none => .no
  | .expr e, env, s => (evv o e env s).toS env fun _ s1 => .ok .nxt env s1
  | .unl is e, env, s => (ev o e env s).toS env fun p s1 => match p with
    | .new xs => match setAll env is xs with
      | some env' => .ok .nxt env' s1
      | none => .no
    | _ => .no
  | .aug i sub e, env, s => match env[i]? with
    | some (some (.int a)) => (evv o e env s).toS env fun d s1 => match d with
      | .int b => .ok .nxt (env.set i (some (.int (if sub = true then a - b else a + b)))) s1
      | _ => .no
    | _ => .no
  | .ret e, env, s => (evv o e env s).toS env fun d s1 => .ok (.ret d) env s1
  | .pass, env, s => .ok .nxt env s
  | .brk, env, s => .ok .brk env s
  | .cnt, env, s => .ok .cnt env s
  | .iff c a b, env, s => (tst o c env s).toS env fun t s1 => if t = true then evSs o a env s1 else evSs o b env s1
  | .whl c b, env, s => whl (fun env s => tst o c env s) (fun env s => evSs o b env s) env s
  | .fr tg it b, env, s => (evi o it env s).toS env fun src s1 => turnsSrc (turnF tg fun env s => evSs o b env s) src env s1
  | .rais c e, env, s => (evv o e env s).toS env fun d s1 => .ex c d env s1
  | .tri b i h, env, s => match evSs o b env s with
    | .ex c v env' s' => (match evSs o h (env'.set i (some (.exc c v))) s' with
      | .ok f env2 s2 => .ok f (env2.set i none) s2
      | _ => .no)
    | x => x
  | .sfd a c f e, env, s => (evv o e env s).toS env fun d s1 => (evv o a env s1).toS env fun x s2 => match fputR c f x d s2 with
    | some s3 => .ok .nxt env s3
    | none => .no
  | .pf2 c a1 f1 a2 f2 es, env, s => (evs o es env s).toS env fun ds s1 => match ds with
    | [d1, d2] => (evv o a1 env s1).toS env fun x s2 => (match fputR c f1 x d1 s2 with
      | some s3 => (evv o a2 env s3).toS env fun y s4 => (match fputR c f2 y d2 s4 with
        | some s5 => .ok .nxt env s5
        | none => .no)
      | none => .no)
    | _ => .no
  | .dead, _, _ => .no
noncomputable def evSs (o : Orc) : Ss → Env → Sto → RS
  | .nil, env, s => .ok .nxt env s
  | .cons st r, env, s => match evS o st env s with
    | .ok .nxt env' s' => evSs o r env' s'
    | x => x
end

/-! ### functions -/
mutual
def D.und (n : Nat) : D → Bool
  | .loc k => decide (k < n)
  | .tup xs => D.undL n xs
  | .flst xs => D.undL n xs
  | .fdk _ vs => D.undL n vs
  | .fins _ _ vs => D.undL n vs
  | .exc _ v => v.und n
  | .clo _ ds => D.undL n ds
  | _ => true
def D.undL (n : Nat) : List D → Bool
  | [] => true
  | d :: r => d.und n && D.undL n r
end
def Cell.und (n : Nat) : Cell → Bool
  | .lst xs => D.undL n xs
  | .dk kvs => D.undL n (kvs.map (·.2))
  | .ins _ fs => D.undL n (fs.map (·.2))
  | .lk kvs => D.undL n (kvs.map (·.2))
/-- a function: how many parameters, how many names in all, its body; what becomes of the lists that it made: fz: what it hands back is changed no more -/
structure FDef where
  ps : Nat
  names : Nat
  body : Ss
  /-- the class whose __init__ it is: a call of it makes an instance -/
  cl : Option Str := none
/-- what stood ahead of a call does not know what was made in it -/
def KeepsOld (s s' : Sto) : Prop := ∀ i, i < s.length → s'[i]? = s[i]? ∨ ∃ c, s'[i]? = some c ∧ c.und s.length = true
/-- what was made in a call and is handed back, as a tree -/
def frz (n : Nat) (s : Sto) : Nat → D → D
  | 0, d => d
  | k + 1, d => match d with
    | .loc m => if m < n then .loc m else match s[m]? with
      | some (.lst xs) => .flst (xs.map (frz n s k))
      | some (.dk kvs) => .fdk (kvs.map (·.1)) (kvs.map fun p => frz n s k p.2)
      | some (.lk kvs) => .fdk (kvs.map (·.1)) (kvs.map fun p => frz n s k p.2)
      | some (.ins c fs) => .fins c (fs.map (·.1)) (fs.map fun p => frz n s k p.2)
      | none => .loc m
    | .tup xs => .tup (xs.map (frz n s k))
    | .flst xs => .flst (xs.map (frz n s k))
    | .fdk ks vs => .fdk ks (vs.map (frz n s k))
    | .fins c fs vs => .fins c fs (vs.map (frz n s k))
    | .exc c v => .exc c (frz n s k v)
    | d => d
def freeze (n : Nat) (d : D) (s : Sto) : D := frz n s 9 d
open Classical in
/-- behind a call: what it made is forgotten, if nothing else holds it -/
noncomputable def sweep (s : Sto) (r : R D) : R D := match r with
  | .ok d s' => if (freeze s.length d s').und s.length = true ∧ s.length ≤ s'.length ∧ KeepsOld s s' then .ok (freeze s.length d s') (s'.take s.length) else .ok d s'
  | r => r
noncomputable def runF (o : Orc) (fd : FDef) (ds : List D) (s : Sto) : R D :=
  match evSs o fd.body (ds.map some ++ List.replicate (fd.names - ds.length) none) s with
  | .ok (.ret d) _ s' => .ok d s'
  | .ok .nxt _ s' => .ok .non s'
  | .ex c v _ s' => .ex c v s'
  | _ => .no
/-- a class is called: a new instance, then its __init__ -/
noncomputable def runM (o : Orc) (fd : FDef) (c : Str) (ds : List D) (s : Sto) : R D := match runF o fd (.loc s.length :: ds) (s ++ [.ins c []]) with
  | .ok .non s' => .ok (.loc s.length) s'
  | .ex c v s' => .ex c v s'
  | _ => .no
noncomputable def runX (o : Orc) (fd : FDef) (ds : List D) (s : Sto) : R D := match fd.cl with
  | none => if ds.length = fd.ps then runF o fd ds s else .no
  | some c => if ds.length + 1 = fd.ps then runM o fd c ds s else .no
/-- the functions, to a depth. keep f: what f hands back may be changed further -/
noncomputable def callN (F : Nat → Option FDef) (keep : Nat → Bool) : Nat → Orc
  | 0, _, _, _ => .no
  | n + 1, f, ds, s => match F f with
    | some fd => if keep f = true then runX (callN F keep n) fd ds s else sweep s (runX (callN F keep n) fd ds s)
    | none => .no
end Mi

/-! # A tuple with its numbers -/
namespace ET
open PySem PySem.Spec PyProof.Rows L2
/-- the two new objects -/
abbrev itO (a : Addr) : Obj := { cls := .type "tuple_iterator", data := .fields #[.ref a, .int 0 0] }
abbrev enO (i : Addr) : Obj := { cls := .type "enumerate", data := .fields #[.none, .bool false, .ref i, rawInt 0, .none, .none] }
theorem new_of_tuple (a : Addr) (us : Array Value) (k : Nat) (d : Option Addr) (sl : Array (Option Value)) :
    Meets (Builtin.«enumerate.__new__» ⟨[.type "enumerate", .ref a], []⟩) (fun _ R s => s.heap.get? a = some ⟨.type "tuple", d, .seq us k, sl⟩ ∧
      R (.ok (.ret (.ref (s.heap.push (itO a)).objs.size))) { s with heap := (s.heap.push (itO a)).push (enO s.heap.objs.size) }) := by
  refine .of_wp fun prog w A R s ⟨hl, h⟩ => ?_
  obtain ⟨hp, g, dd, tk, os⟩ := s
  have z1 := sub_enumerate
  have z2 : Heap.IsTuple (Shared.heap ⟨hp, g, dd, tk, os⟩) a us := ⟨_, hl, rfl, k, rfl⟩
  wp_walk using AutoSeq1.wpAny_loadPart' hl
  refine wpAny_stack_any fun st => wpAny_pure ?_
  split
  · rename_i c _ _ _ _ _
    cases (c == Value.type "enumerate") <;>
    · wp_walk using AutoSeq1.wpAny_loadPart' hl, wpAny_pyIter_tuple z2
      exact ⟨_, rfl, h⟩
  · wp_walk using AutoSeq1.wpAny_loadPart' hl, wpAny_pyIter_tuple z2
    exact ⟨_, rfl, h⟩
section
variable {prog : Program} {w : World} {A : Around} {E : Value → Shared → Prop} {s : Shared}
theorem enum_call {a : Addr} {us : Array Value} {Q : Value → Shared → Prop} (hT : s.heap.IsTuple a us)
    (go : ∀ hp, IsEnum hp (s.heap.objs.size + 1) s.heap.objs.size 0 .none → hp.IsTupleIter s.heap.objs.size a 0 →
      (∀ b o, s.heap.get? b = some o → hp.get? b = some o) → Q (.ref (s.heap.objs.size + 1)) { s with heap := hp }) : wpAny (model prog w) A (call (.type "enumerate") [.ref a]) Q E s := by
  obtain ⟨⟨c, d, dt, sl⟩, hl, e1, k, e2⟩ := hT
  have e1' : c = .type "tuple" := e1
  have e2' : dt = .seq us k := e2
  subst e1' e2'
  refine callType_new F.called_enumerate (by decide) (F.typeCall_enumerate_1 _) (F.newCall_enumerate_1 _) (fun ob => F.args_object_init_2 ob _) F.entry_enumerate_new (new_of_tuple a us k d sl) ⟨hl, ?_⟩
  have z : (s.heap.push (itO a)).objs.size = s.heap.objs.size + 1 := Heap.size_push ..
  have en : IsEnum ((s.heap.push (itO a)).push (enO s.heap.objs.size)) (s.heap.objs.size + 1) s.heap.objs.size 0 .none := by
    have q := Heap.get?_push_size (s.heap.push (itO a)) (o := enO s.heap.objs.size) rfl
    rwa [z] at q
  show _ ∧ _
  rw [z]
  exact ⟨⟨_, en, rfl⟩, go _ en ⟨_, Heap.get?_push_of_some _ (Heap.get?_push_size _ rfl), rfl, rfl⟩ fun b o q => Heap.get?_push_of_some _ (Heap.get?_push_of_some _ q)⟩
theorem drawn {it a : Addr} {us : Array Value} (hh : A.handled = none) (hne : a ≠ it) :
    PySem.Draws prog w A it [it, a] us.size (fun i v => us[i]? = some v) (fun i h => h.IsTupleIter it a i ∧ h.IsTuple a us) where
  live := by
    rintro _ _ ⟨⟨o, q, _⟩, _⟩
    exact ⟨o, q⟩
  frame := by
    rintro _ _ _ ⟨q1, q2⟩ f
    exact ⟨q1.at fun o e => f it (by simp) o e, q2.at fun o e => f a (by simp) o e⟩
  item := fun i s Q E hi ⟨q1, q2⟩ go => RZ.nextOf_tuple_item q1 q2 (x := us[i]) (by simp [hi]) fun h1 g1 g2 => go _ h1 s.toks (by simp [hi]) ⟨g1, q2.at fun o e => (g2.2 a hne).trans e⟩ g2
  done := fun s Q E ⟨q1, q2⟩ stop => RZ.nextOf_tuple_end hh q1 q2 (by simp) stop
theorem enum_end {e it a : Addr} {i : Nat} {us : Array Value} {old : Value} {Q : Option Value → Shared → Prop} (hh : A.handled = none) (en : IsEnum s.heap e it i old)
    (q1 : s.heap.IsTupleIter it a i) (q2 : s.heap.IsTuple a us) (hx : us[i]? = none) (go : ∀ hp, Heap.ExtBut it s.heap hp → Q none { s with heap := hp }) : wpAny (model prog w) A (pyNext (.ref e)) Q E s := by
  have ty : s.TypeIs (.ref e) "enumerate" := ⟨_, en, rfl⟩
  unfold pyNext
  have inner : wpAny (model prog w) A.in1 (Builtin.«enumerate.__next__» ⟨[.ref e], []⟩) (fun fin s' => ∃ v, fin = .done (.ret v) ∧ False) (fun x s' => (∃ o, s'.heap.get? (match x with | .ref b => b | _ => 0) = some o ∧ o.cls = .type "StopIteration") ∧ (∃ b, x = .ref b) ∧ ∃ hp, s' = { s with heap := hp } ∧ Heap.ExtBut it s.heap hp) s := by
    show wpAny (model prog w) A.in1 (field (.ref e) 2 >>= _) _ _ s
    exact wpAny_bind (wpAny_field en rfl (x := .ref it) rfl (wpAny_bind (RZ.nextOf_tuple_end (A := A.in1) hh q1 q2 hx fun h1 x g1 g2 => ⟨g2, ⟨x, rfl⟩, h1, rfl, g1⟩)))
  refine wpAny_bind (wpAny_attempt (wpAny_callSpecial?_slot (name := Str.ofString "__next__") ty F.slot_enumerate_next (wpAny_call_entry F.slot_enumerate_next ty F.entry_enumerate_next (wpAny_mono inner ?_ ?_) (F.args_enumerate_next_1 _))))
  · rintro fin s' ⟨v, _, f⟩
    exact f.elim
  · rintro x s' ⟨⟨o, g1, g2⟩, ⟨b, rfl⟩, hp, rfl, g3⟩
    exact wpAny_bind (wpAny_isInstance (T := "StopIteration") (b := true) ⟨o, g1, g2⟩ isSubtype_stop (wpAny_pure (go _ g3)))
end
/-- the tuple at a, each item with its number in a new pair -/
def ItT (K : PySem.W.Frag) (a : Addr) : It where
  go i H := ∃ xs x, SqT K H a xs ∧ xs[i]? = some x
  yld i H v H' := ∃ t x, v = .ref t ∧ H t = none ∧ H' = upd H t (.tup [.int (i : Nat), x]) ∧ ∀ xs, SqT K H a xs → xs[i]? = some x
  stop i H := ∃ xs : List V, SqT K H a xs ∧ xs.length ≤ i
theorem turn {P : Program} {w : World} {K : PySem.W.Frag} {elts : List Expr} {kk : Nat} {tp : Pos} {a e it : Addr} (ne : e ≠ it) (na : a ≠ e) (ni : a ≠ it) :
    Turn P w K (.Tuple elts kk tp) (ItT K a) [e, it] e (fun i h => (∃ old, IsEnum h e it ((i : Nat) : Int) old) ∧ h.IsTupleIter it a i) where
  mem := List.mem_cons_self
  obj := by
    rintro i h ⟨⟨old, z⟩, o, g1, g2, g3⟩ b hb
    rcases List.mem_cons.mp hb with rfl | hb
    · exact ⟨_, z, fun v q => nomatch q⟩
    · rw [List.mem_singleton.mp hb]
      exact ⟨o, g1, fun v q => by rw [g3] at q; cases q⟩
  keep := by
    rintro i h h' ⟨⟨old, z⟩, g⟩ f
    exact ⟨⟨old, f e (by simp) _ z⟩, g.at fun o q => f it (by simp) o q⟩
  item := by
    intro X hP hw hK hc i pins s σ H E I hf ⟨⟨old, en⟩, ti⟩ ⟨xs, x, hq, hx⟩
    subst hP hw hK
    obtain ⟨us, rv, tu, hz⟩ := I.tuple hq
    obtain ⟨u, hu, ru⟩ := rv.get hx
    have lt_e : e < s.heap.objs.size := Heap.lt_size en
    have lt_i : it < s.heap.objs.size := let ⟨_, q, _⟩ := ti; Heap.lt_size q
    have hi : i < us.toArray.size := by simpa using (List.getElem?_eq_some_iff.mp hu).1
    refine wpAny_pyNext_enum_itemD (drawn (us := us.toArray) (A := X.A.in1) (I.ok.hd hc) ni) en ⟨ti, tu⟩ hi ne (by simp [ne, Ne.symm na]) fun y h1 tk hy out st hT hs hk => ?_
    have ey : u = y := by
      simp only [List.getElem?_toArray, hu] at hy
      cases hy
      rfl
    subst ey
    refine ⟨_, rfl, wpAny_letOwnedTupleGo_enum (s := { s with heap := h1, toks := tk + 1 }) out fun h2 en2 sb => ?_⟩
    have hT2 : h2.get? s.heap.objs.size = some { cls := .type "tuple", data := .seq #[.int i tk, u] } := (sb.2 _ (Nat.ne_of_gt lt_e)).trans hT
    have ok : ObjOk X.prog X.w (upd H s.heap.objs.size (.tup [.int (i : Nat), x])) h2 s.heap.objs.size (.tup [.int (i : Nat), x]) := ⟨by show 2 ≤ sizeLine; decide, [.int i tk, u], .cons ⟨tk, rfl⟩ (.cons ru .nil), ⟨_, hT2, rfl, _, rfl⟩⟩
    have I1 : Inv X pins σ (upd H s.heap.objs.size (.tup [.int (i : Nat), x])) { s with heap := h2, toks := tk + 1 } := by
      refine I.turnedNew (t' := tk + 1) (ch := [e, it]) (fun b ob hb q => ?_) hf (Nat.le_refl _) ok
      have b1 : b ≠ e := fun z => hb (by simp [z])
      have b2 : b ≠ it := fun z => hb (by simp [z])
      exact (sb.2 b b1).trans (hk b ob b1 b2 q)
    refine ⟨.ref s.heap.objs.size, _, I1, rfl, ⟨_, x, rfl, I.hok.fresh (Nat.le_refl _), rfl, fun ys hy => by rw [I.tuple_inj hy hq]; exact hx⟩, ⟨⟨u, ?_⟩, st.1.at fun o q => (sb.2 it (Ne.symm ne)).trans q⟩, fun b hb => ?_⟩
    · rw [Int.natCast_add]
      exact en2
    · have lt : b < s.heap.objs.size := by
        rcases List.mem_cons.mp hb with rfl | h1
        · exact lt_e
        · rw [List.mem_singleton.mp h1]; exact lt_i
      rw [upd_ne (Nat.ne_of_lt lt)]
      exact (hf b hb).1
  done := by
    intro X hP hw hK hc i pins s σ H E I hf ⟨⟨old, en⟩, ti⟩ ⟨xs, hq, hx⟩
    subst hP hw hK
    obtain ⟨us, rv, tu, hz⟩ := I.tuple hq
    obtain ⟨f0, f1, f2, f3, f4, f5⟩ := hf it (by simp)
    have hl := rv.length
    exact enum_end (I.ok.hd hc) en ti tu (by simp; omega) fun h1 eb => ⟨rfl, I.turned (t' := s.toks) (fun b o hb q => eb b o hb q) f0 f1 f3 f4 f5⟩
  self := fun A i s Q E st h => let ⟨⟨_, z⟩, _⟩ := st; wpAny_pyIter_enum z h
/-- enumerate of a list, of a tuple -/
def iEnu (K : PySem.W.Frag) (ta : TA) : TI := fun σ H R => ta σ H fun vs H1 => ∃ a xs, vs = [.ref a] ∧ ((SqL K H1 a xs ∧ R (Ite K a) H1) ∨ (SqT K H1 a xs ∧ R (ItT K a) H1))
theorem pi_enu {X : Cx} {e : Expr} {ta : TA} {p pos tp : Pos} {elts : List Expr} {kk : Nat} (hg : Gl X "enumerate") (hm : X.mg "enumerate" = none) (ha : PA X [e] ta) (hs : starEach [e] X.env = [(false, eval e X.env)]) : PI X (.Tuple elts kk tp) (.Call (.Name "enumerate" p) [e] [] pos) (iEnu X.K ta) := by
  refine ⟨fun pins s σ H R I h => Call_ (ld_blt I hg hm boot_enumerate (PyProof.Rows.callWith_type1 (thn (ha.run pos pins s σ H _ I h) fun us s1 ⟨vs, H1, I1, r1, a, xs, ex, q1⟩ => ?_) hs rfl))⟩
  subst ex
  cases r1 with
  | cons r rr =>
  cases rr
  cases r
  have new2 : ∀ b, b ∈ [s1.heap.objs.size + 1, s1.heap.objs.size] → FpOk X pins H1 b := fun b hb => by
    have le : s1.heap.objs.size ≤ b := by
      simp only [List.mem_cons, List.not_mem_nil, or_false] at hb
      omega
    exact I1.fpOk le (I1.hok.fresh le)
  rcases q1 with ⟨hq, q⟩ | ⟨hq, q⟩
  · obtain ⟨its, _, li, _⟩ := I1.list hq
    exact call_enumerate_list li.isList fun hp e1 e2 _ e4 => wpAny_pyIter_enum e1 ⟨s1.heap.objs.size + 1, [s1.heap.objs.size + 1, s1.heap.objs.size], _, _, H1, rfl, I1.kept (t' := s1.toks) e4, turn_enum a (s1.heap.objs.size + 1) s1.heap.objs.size, ⟨⟨.none, e1⟩, e2, Nat.succ_ne_self _⟩, new2, q⟩
  · obtain ⟨its, _, tu, _⟩ := I1.tuple hq
    obtain ⟨o, ho, _⟩ := id tu
    have lt : a < s1.heap.objs.size := Heap.lt_size ho
    exact enum_call (show s1.heap.IsTuple a its.toArray from tu) fun hp e1 e2 e4 => wpAny_pyIter_enum e1 ⟨s1.heap.objs.size + 1, [s1.heap.objs.size + 1, s1.heap.objs.size], _, _, H1, rfl, I1.kept (t' := s1.toks) e4, turn (Nat.succ_ne_self _) (Nat.ne_of_lt (Nat.lt_succ_of_lt lt)) (Nat.ne_of_lt lt), ⟨⟨.none, e1⟩, e2⟩, new2, q⟩
end ET

/-! # What a tree, a store stand for in the abstract heap -/
namespace Mi
open PySem L2
/-- what is set aside: (true, a): a list that is read as a frozen one; (false, a): a thing that is only left alone -/
abbrev Fz := List (Bool × Addr)
section
variable (K : PySem.W.Frag) (φ : Fz) (μ : List Addr) (H : Hp)
abbrev none0 : Hp := fun _ => none
/-- a list of the text -/
def KL (a : Addr) (vs : List V) : Prop := ∃ (its : Array Value) (n : Nat), K.lookup a = some { cls := .type "list", data := .seq its n } ∧ its.size ≤ sizeLine ∧ Vals vs its.toList
/-- a list that stays as it is: tracked and set aside, locked, or a thing of the text -/
def FzL (a : Addr) (vs : List V) : Prop := ((true, a) ∈ φ ∧ H a = some (.lst vs)) ∨ (∃ o, H a = some (.frz o (.lst vs))) ∨ KL K a vs
/-- the class of that name -/
def ClsAt (c : Str) (C : Addr) : Prop := PySem.W.nsIn K mainGlobals c = some (some (.ref C))
/-- the error classes of the program -/
def errNames : List String := ["QueueError", "BadWeb", "BadRoad", "BadPlace", "BadNumber", "TooMany", "BadPuttings", "BadRate", "BadWay", "TooFast", "BadText", "BadRule", "BadRows", "NotRing", "HasRing", "TooSlow", "NotTowards", "BadDues", "UnlikeEnds", "BadWays", "BadTable", "TooGreat", "NoThing", "WrongKind", "BadName", "Held", "OtherWeb", "BadDeed", "NothingToUndo", "NothingToRedo", "NoNote", "BadDesk"]
/-- an error class by its name: its class object, where its __init__ stands, the base of all of them -/
def ErrAt (K : PySem.W.Frag) (c : String) (C fI Dq : Addr) : Prop := c ∈ errNames ∧ ClsAt K (Str.ofString c) C ∧ ErrCls K C fI Dq ∧ ClsAt K "QueueError" Dq
mutual
def RelD : D → V → Prop
  | .non, v => v = .non
  | .bl b, v => v = .bl b
  | .int i, v => v = .int i
  | .str x, v => v = .str x
  | .tup ds, v => ∃ a vs, v = .ref a ∧ SqT K H a vs ∧ RelL ds vs
  | .flst ds, v => ∃ a vs, v = .ref a ∧ FzL K φ H a vs ∧ RelL ds vs
  | .loc n, v => ∃ a, v = .ref a ∧ μ[n]? = some a
  | .fdk ks ds, v => ∃ a o ws, v = .ref a ∧ H a = some (.frz o (.dK ws)) ∧ ws.map (·.1) = ks ∧ RelL ds (ws.map (·.2))
  | .fins c fs ds, v => ∃ a C dx ws, v = .ref a ∧ (true, a) ∈ φ ∧ H a = some (.ins C dx ws) ∧ ClsAt K c C ∧ ws.map (·.1) = fs ∧ RelL ds (ws.map (·.2))
  | .exc c d, v => ∃ a C fI Dq dd w, v = .ref a ∧ (true, a) ∈ φ ∧ (true, dd) ∈ φ ∧ H a = some (ErrO (.ref C) dd a) ∧ H dd = some (.xd [(("value" : Str), w)]) ∧ ErrAt K c C fI Dq ∧ RelD d w
  | .clo _ _, _ => False
def RelL : List D → List V → Prop
  | [], vs => vs = []
  | d :: ds, vs => ∃ v r, vs = v :: r ∧ RelD d v ∧ RelL ds r
end
/-- what belongs to names, keys -/
def RelM {κ : Type} (kvs : List (κ × D)) (ws : List (κ × V)) : Prop := ws.map (·.1) = kvs.map (·.1) ∧ RelL K φ μ H (kvs.map (·.2)) (ws.map (·.2))
def RelC : Cell → Addr → Prop
  | .lst ds, a => ∃ vs, H a = some (.lst vs) ∧ RelL K φ μ H ds vs
  | .dk kvs, a => ∃ ws, H a = some (.dK ws) ∧ RelM K φ μ H kvs ws
  | .ins c fs, a => ∃ C dx ws, H a = some (.ins C dx ws) ∧ ClsAt K c C ∧ RelM K φ μ H fs ws
  | .lk kvs, a => ∃ ob ws, H a = some (.frz ob (.dK ws)) ∧ RelM K φ μ H kvs ws
end
/-- the defs whose lambdas may be made -/
def lamMakers : List Str := ["joined", "_law_right", "_law_are_crossed_refused", "_law_are_dues_refused", "_law_are_judged_told", "_law_are_rates_refused", "_law_are_rates_told", "_law_are_rows_told", "_law_calls",
  "_law_gone_back", "_law_is_blown_told", "_law_is_great_told", "_law_is_long_told", "_law_is_refused", "_law_noted", "_law_redone", "_law_told", "_law_undone"]
/-- how their lambdas are named -/
def lamQual (x : Str) : Str := (x ++ (".<locals>." : Str)) ++ ("<lambda>" : Str)
/-- the tables of code objects of these defs are known -/
def TabOk (K : PySem.W.Frag) (H : Hp) : Prop := ∀ x ∈ lamMakers, (He.Fa.glo x).ok K = true → LamX.TabS H (He.cT K (x, none)).2 (lamQual x)
theorem TabOk.keep {K : PySem.W.Frag} {H H' : Hp} (t : TabOk K H) (h1 : ∀ b ps, H b = some (.tbl ps) → H' b = some (.tbl ps)) (h2 : ∀ b q, H b = some (.ext q) → H' b = some (.ext q)) : TabOk K H' := fun x hx g => by
  obtain ⟨ps, e1, e2, e3⟩ := t x hx g
  exact ⟨ps, h1 _ _ e1, e2, fun pos cv hc => let ⟨c, a, b⟩ := e3 pos cv hc; ⟨c, a, h2 _ _ b⟩⟩
theorem TabOk.new {K : PySem.W.Frag} {H : Hp} {p : Addr} {o : HO} (t : TabOk K H) (hp : H p = none) : TabOk K (upd H p o) :=
  t.keep (fun b ps e => by rw [upd_ne (by rintro rfl; rw [hp] at e; cases e)]; exact e) (fun b q e => by rw [upd_ne (by rintro rfl; rw [hp] at e; cases e)]; exact e)
theorem TabOk.put {K : PySem.W.Frag} {H : Hp} {p : Addr} {o u : HO} (t : TabOk K H) (hp : H p = some u) (h1 : ∀ ps, u ≠ .tbl ps) (h2 : ∀ q, u ≠ .ext q) : TabOk K (upd H p o) :=
  t.keep (fun b ps e => by rw [upd_ne (by rintro rfl; rw [hp] at e; cases e; exact h1 _ rfl)]; exact e) (fun b q e => by rw [upd_ne (by rintro rfl; rw [hp] at e; cases e; exact h2 _ rfl)]; exact e)
section
variable (K : PySem.W.Frag) (φ : Fz) (μ : List Addr) (H : Hp)
/-- the store: φ what is set aside, μ where its places stand -/
structure RelS (s : Sto) : Prop where
  nd : μ.Nodup
  len : μ.length = s.length
  cell : ∀ (n : Nat) (c : Cell) (a : Addr), s[n]? = some c → μ[n]? = some a → RelC K φ μ H c a
  apart : ∀ p ∈ φ, p.2 ∉ μ
  here : ∀ p ∈ φ, H p.2 ≠ none
  one : ∀ a, (false, a) ∈ φ → (true, a) ∉ φ
  tabs : TabOk K H
  nt : ∀ p ∈ φ, ∀ ps, H p.2 ≠ some (.tbl ps)
end
/-- the lambda that a def was handed (its first parameter): which one, what it captured, its object, its code, its name -/
structure Th where
  n : Nat
  vs : List V
  f : Addr
  c : Addr
  q : Str
/-- what is told of a def beside its names -/
structure XcT where
  th : Option Th := none
/-- the names; the first one holds the lambda, if there is one -/
structure RelE (xc : XcT) (K : PySem.W.Frag) (φ : Fz) (μ : List Addr) (H : Hp) (env : Env) (σ : St) : Prop where
  len : env.length = σ.length
  at_ : ∀ (i : Nat) (d : D), env[i]? = some (some d) → (xc.th ≠ none → i ≠ 0) → ∃ v, σ[i]? = some (some v) ∧ RelD K φ μ H d v
  cl : ∀ t, xc.th = some t → σ[0]? = some (some (.ref t.f)) ∧ (∃ ds, env[0]? = some (some (.clo t.n ds)) ∧ RelL K φ μ H ds t.vs) ∧ H t.c = some (LamX.CodeO t.c t.q)
/-- later: more is set aside, more places, what was read stays -/
structure Le (K : PySem.W.Frag) (φ : Fz) (μ : List Addr) (H : Hp) (φ' : Fz) (μ' : List Addr) (H' : Hp) : Prop where
  fz : ∀ p ∈ φ, p ∈ φ'
  pl : μ <+: μ'
  tup : ∀ a vs, SqT K H a vs → SqT K H' a vs
  frz : ∀ a o u, H a = some (.frz o u) → H' a = some (.frz o u)
  set : ∀ p ∈ φ, H' p.2 = H p.2
  ext : ∀ a q, H a = some (.ext q) → H' a = some (.ext q)
theorem Le.refl {K : PySem.W.Frag} {φ : Fz} {μ : List Addr} {H : Hp} : Le K φ μ H φ μ H := ⟨fun _ h => h, List.prefix_refl _, fun _ _ h => h, fun _ _ _ h => h, fun _ _ => rfl, fun _ _ h => h⟩
theorem Le.trans {K : PySem.W.Frag} {φ φ1 φ2 : Fz} {μ μ1 μ2 : List Addr} {H H1 H2 : Hp} (a : Le K φ μ H φ1 μ1 H1) (b : Le K φ1 μ1 H1 φ2 μ2 H2) : Le K φ μ H φ2 μ2 H2 :=
  ⟨fun x h => b.fz x (a.fz x h), a.pl.trans b.pl, fun x vs h => b.tup x vs (a.tup x vs h), fun x o u h => b.frz x o u (a.frz x o u h), fun x h => (b.set x (a.fz x h)).trans (a.set x h), fun x q h => b.ext x q (a.ext x q h)⟩
theorem get_pre {α : Type} {l l' : List α} (h : l <+: l') {i : Nat} {x : α} (e : l[i]? = some x) : l'[i]? = some x := by
  obtain ⟨r, rfl⟩ := h
  rw [List.getElem?_append_left (List.getElem?_eq_some_iff.mp e).1]
  exact e
section
variable {K : PySem.W.Frag} {φ φ' : Fz} {μ μ' : List Addr} {H H' : Hp}
theorem FzL.up (l : Le K φ μ H φ' μ' H') {a : Addr} {vs : List V} (h : FzL K φ H a vs) : FzL K φ' H' a vs := by
  rcases h with ⟨h1, h2⟩ | ⟨o, h1⟩ | h1
  · exact .inl ⟨l.fz _ h1, (l.set _ h1).trans h2⟩
  · exact .inr (.inl ⟨o, l.frz a _ _ h1⟩)
  · exact .inr (.inr h1)
theorem FzL.sq {a : Addr} {vs : List V} (h : FzL K φ H a vs) : SqL K H a vs := by
  rcases h with ⟨_, h2⟩ | ⟨o, h1⟩ | h1
  · exact .inl (.inl h2)
  · exact .inl (.inr ⟨o, h1⟩)
  · obtain ⟨its, n, h1, h2, h3⟩ := h1
    exact .inr ⟨_, its, n, h1, rfl, rfl, rfl, h2, h3⟩
mutual
theorem RelD.up (l : Le K φ μ H φ' μ' H') : ∀ {d : D} {v : V}, RelD K φ μ H d v → RelD K φ' μ' H' d v
  | .non, _, h => by unfold RelD at h ⊢; exact h
  | .bl _, _, h => by unfold RelD at h ⊢; exact h
  | .int _, _, h => by unfold RelD at h ⊢; exact h
  | .str _, _, h => by unfold RelD at h ⊢; exact h
  | .tup ds, _, h => by
    unfold RelD at h ⊢
    obtain ⟨a, vs, e, h1, h2⟩ := h
    exact ⟨a, vs, e, l.tup a vs h1, RelL.up l h2⟩
  | .flst ds, _, h => by
    unfold RelD at h ⊢
    obtain ⟨a, vs, e, h1, h2⟩ := h
    exact ⟨a, vs, e, h1.up l, RelL.up l h2⟩
  | .loc n, _, h => by
    unfold RelD at h ⊢
    obtain ⟨a, e, h1⟩ := h
    exact ⟨a, e, get_pre l.pl h1⟩
  | .fdk ks ds, _, h => by
    unfold RelD at h ⊢
    obtain ⟨a, o, ws, e, h1, h2, h3⟩ := h
    exact ⟨a, o, ws, e, l.frz a _ _ h1, h2, RelL.up l h3⟩
  | .fins c fs ds, _, h => by
    unfold RelD at h ⊢
    obtain ⟨a, C, dx, ws, e, h1, h2, h3, h4, h5⟩ := h
    exact ⟨a, C, dx, ws, e, l.fz _ h1, (l.set _ h1).trans h2, h3, h4, RelL.up l h5⟩
  | .exc c d, _, h => by
    unfold RelD at h ⊢
    obtain ⟨a, C, fI, Dq, dd, w, e, h1, h2, h3, h4, h5, h6⟩ := h
    exact ⟨a, C, fI, Dq, dd, w, e, l.fz _ h1, l.fz _ h2, (l.set _ h1).trans h3, (l.set _ h2).trans h4, h5, RelD.up l h6⟩
  | .clo _ _, _, h => by unfold RelD at h; exact h.elim
theorem RelL.up (l : Le K φ μ H φ' μ' H') : ∀ {ds : List D} {vs : List V}, RelL K φ μ H ds vs → RelL K φ' μ' H' ds vs
  | [], _, h => by unfold RelL at h ⊢; exact h
  | d :: ds, _, h => by
    unfold RelL at h ⊢
    obtain ⟨v, r, e, h1, h2⟩ := h
    exact ⟨v, r, e, RelD.up l h1, RelL.up l h2⟩
end
theorem RelM.up {κ : Type} {kvs : List (κ × D)} {ws : List (κ × V)} (l : Le K φ μ H φ' μ' H') (h : RelM K φ μ H kvs ws) : RelM K φ' μ' H' kvs ws := ⟨h.1, h.2.up l⟩
theorem RelE.up {xc : XcT} (l : Le K φ μ H φ' μ' H') {env : Env} {σ : St} (h : RelE xc K φ μ H env σ) : RelE xc K φ' μ' H' env σ :=
  ⟨h.len, fun i d e n => let ⟨v, h1, h2⟩ := h.at_ i d e n; ⟨v, h1, h2.up l⟩, fun t e => let ⟨h1, ⟨ds, h2, h3⟩, h5⟩ := h.cl t e; ⟨h1, ⟨ds, h2, h3.up l⟩, l.ext _ _ h5⟩⟩
theorem RelL.nil : RelL K φ μ H [] [] := by unfold RelL; rfl
theorem RelL.cons {d : D} {v : V} {ds : List D} {vs : List V} (h : RelD K φ μ H d v) (r : RelL K φ μ H ds vs) : RelL K φ μ H (d :: ds) (v :: vs) := by
  conv => unfold RelL
  exact ⟨v, vs, rfl, h, r⟩
theorem RelL.of_cons {d : D} {ds : List D} {vs : List V} (h : RelL K φ μ H (d :: ds) vs) : ∃ v r, vs = v :: r ∧ RelD K φ μ H d v ∧ RelL K φ μ H ds r := by
  unfold RelL at h
  exact h
theorem RelL.of_nil {vs : List V} (h : RelL K φ μ H [] vs) : vs = [] := by
  unfold RelL at h
  exact h
theorem RelL.length : ∀ {ds : List D} {vs : List V}, RelL K φ μ H ds vs → ds.length = vs.length
  | [], _, h => by rw [h.of_nil]; rfl
  | d :: ds, _, h => by
    obtain ⟨v, r, rfl, _, h2⟩ := h.of_cons
    rw [List.length_cons, List.length_cons, h2.length]
theorem RelL.get : ∀ {ds : List D} {vs : List V} {i : Nat} {d : D}, RelL K φ μ H ds vs → ds[i]? = some d → ∃ v, vs[i]? = some v ∧ RelD K φ μ H d v
  | [], _, _, _, _, e => by simp at e
  | x :: ds, _, 0, d, h, e => by
    obtain ⟨v, r, rfl, h1, _⟩ := h.of_cons
    have e' : x = d := by simpa using e
    subst e'
    exact ⟨v, rfl, h1⟩
  | x :: ds, _, i + 1, d, h, e => by
    obtain ⟨v, r, rfl, _, h2⟩ := h.of_cons
    have e' : ds[i]? = some d := by simpa using e
    obtain ⟨u, e1, e2⟩ := RelL.get h2 e'
    exact ⟨u, by simpa using e1, e2⟩
theorem RelL.set {d : D} {v : V} (hd : RelD K φ μ H d v) : ∀ {ds : List D} {vs : List V} (i : Nat), RelL K φ μ H ds vs → RelL K φ μ H (ds.set i d) (vs.set i v)
  | [], _, i, h => by rw [h.of_nil]; exact .nil
  | x :: ds, _, 0, h => by
    obtain ⟨u, r, rfl, _, h2⟩ := h.of_cons
    exact .cons hd h2
  | x :: ds, _, i + 1, h => by
    obtain ⟨u, r, rfl, h1, h2⟩ := h.of_cons
    exact .cons h1 (RelL.set hd i h2)
theorem RelL.append : ∀ {ds es : List D} {vs us : List V}, RelL K φ μ H ds vs → RelL K φ μ H es us → RelL K φ μ H (ds ++ es) (vs ++ us)
  | [], _, _, _, h, g => by rw [h.of_nil]; exact g
  | x :: ds, _, _, _, h, g => by
    obtain ⟨u, r, rfl, h1, h2⟩ := h.of_cons
    exact .cons h1 (RelL.append h2 g)
theorem RelL.drop : ∀ {ds : List D} {vs : List V} (n : Nat), RelL K φ μ H ds vs → RelL K φ μ H (ds.drop n) (vs.drop n)
  | _, _, 0, h => h
  | [], _, n + 1, h => by rw [h.of_nil]; exact .nil
  | x :: ds, _, n + 1, h => by
    obtain ⟨u, r, rfl, h1, h2⟩ := h.of_cons
    exact RelL.drop n h2
theorem RelL.take : ∀ {ds : List D} {vs : List V} (n : Nat), RelL K φ μ H ds vs → RelL K φ μ H (ds.take n) (vs.take n)
  | _, _, 0, h => .nil
  | [], _, n + 1, h => by rw [h.of_nil]; exact .nil
  | x :: ds, _, n + 1, h => by
    obtain ⟨u, r, rfl, h1, h2⟩ := h.of_cons
    exact .cons h1 (RelL.take n h2)
theorem RelS.at_ {s : Sto} (h : RelS K φ μ H s) {n : Nat} {c : Cell} (e : s[n]? = some c) : ∃ a, μ[n]? = some a ∧ RelC K φ μ H c a := by
  have hl : n < μ.length := by rw [h.len]; exact (List.getElem?_eq_some_iff.mp e).1
  exact ⟨μ[n], List.getElem?_eq_getElem hl, h.cell n c _ e (List.getElem?_eq_getElem hl)⟩
theorem RelC.here {c : Cell} {a : Addr} (h : RelC K φ μ H c a) : H a ≠ none := by
  cases c with
  | lst ds =>
    obtain ⟨vs, e, _⟩ := h
    rw [e]
    intro z
    cases z
  | dk kvs =>
    obtain ⟨vs, e, _⟩ := h
    rw [e]
    intro z
    cases z
  | ins c fs =>
    obtain ⟨_, _, vs, e, _⟩ := h
    rw [e]
    intro z
    cases z
  | lk kvs =>
    obtain ⟨_, vs, e, _⟩ := h
    rw [e]
    intro z
    cases z
theorem RelS.here_mu {s : Sto} (h : RelS K φ μ H s) {a : Addr} (ha : a ∈ μ) : H a ≠ none := by
  obtain ⟨n, hn, e⟩ := List.mem_iff_getElem.mp ha
  have hs : n < s.length := by rw [← h.len]; exact hn
  have e2 : μ[n]? = some a := by rw [List.getElem?_eq_getElem hn, e]
  exact (h.cell n s[n] a (List.getElem?_eq_getElem hs) e2).here
theorem RelS.nt_mu {s : Sto} (h : RelS K φ μ H s) {a : Addr} (ha : a ∈ μ) (ps : Array Value) : H a ≠ some (.tbl ps) := fun z => by
  obtain ⟨n, hn, e⟩ := List.mem_iff_getElem.mp ha
  have hs : n < s.length := by rw [← h.len]; exact hn
  have e2 : μ[n]? = some a := by rw [List.getElem?_eq_getElem hn, e]
  have hc0 := h.cell n s[n] a (List.getElem?_eq_getElem hs) e2
  cases hcc : s[n] with
  | lst ds => rw [hcc] at hc0; obtain ⟨_, g1, _⟩ := hc0; rw [z] at g1; cases g1
  | dk kvs => rw [hcc] at hc0; obtain ⟨_, g1, _⟩ := hc0; rw [z] at g1; cases g1
  | ins c fs => rw [hcc] at hc0; obtain ⟨_, _, _, g1, _⟩ := hc0; rw [z] at g1; cases g1
  | lk kvs => rw [hcc] at hc0; obtain ⟨_, _, g1, _⟩ := hc0; rw [z] at g1; cases g1
/-- tuples and locked things stand where an object that is none of them is put -/
theorem sqt_upd {a b : Addr} {o : HO} {vs : List V} (hn : ∀ o' xs, H b = some o' → o' ≠ .tup xs) (hf : ∀ o' x xs, H b = some o' → o' ≠ .frz x (.tup xs)) (h : SqT K H a vs) : SqT K (upd H b o) a vs := by
  rcases h with (h | ⟨x, h⟩) | h
  · have : a ≠ b := by rintro rfl; exact hn _ _ h rfl
    exact .inl (.inl (by rw [upd_ne this]; exact h))
  · have : a ≠ b := by rintro rfl; exact hf _ _ _ h rfl
    exact .inl (.inr ⟨x, by rw [upd_ne this]; exact h⟩)
  · exact .inr h
/-- a new object beside -/
theorem Le.new {p : Addr} {o : HO} (hp : H p = none) (hφ : ∀ p ∈ φ, H p.2 ≠ none) : Le K φ μ H φ μ (upd H p o) :=
  ⟨fun _ h => h, List.prefix_refl _, fun a vs h => sqt_upd (fun o' xs e => by rw [hp] at e; cases e) (fun o' x xs e => by rw [hp] at e; cases e) h,
    fun a x u h => by
      have : a ≠ p := by rintro rfl; rw [hp] at h; cases h
      rw [upd_ne this]; exact h,
    fun q hq => by
      have : q.2 ≠ p := by rintro rfl; exact hφ _ hq hp
      rw [upd_ne this],
    fun a q h => by rw [upd_ne (by rintro rfl; rw [hp] at h; cases h)]; exact h⟩
theorem Le.grow {p : Addr} : Le K φ μ H φ (μ ++ [p]) H := ⟨fun _ h => h, List.prefix_append .., fun _ _ h => h, fun _ _ _ h => h, fun _ _ => rfl, fun _ _ h => h⟩
theorem RelC.up_but {c : Cell} {a : Addr} (l : Le K φ μ H φ' μ' H') (e : H' a = H a) (h : RelC K φ μ H c a) : RelC K φ' μ' H' c a := by
  cases c with
  | lst ds =>
    obtain ⟨vs, e1, h1⟩ := h
    exact ⟨vs, e.trans e1, h1.up l⟩
  | dk kvs =>
    obtain ⟨vs, e1, h1⟩ := h
    exact ⟨vs, e.trans e1, h1.up l⟩
  | ins c fs =>
    obtain ⟨C, dx, vs, e1, h0, h1⟩ := h
    exact ⟨C, dx, vs, e.trans e1, h0, h1.up l⟩
  | lk kvs =>
    obtain ⟨ob, vs, e1, h1⟩ := h
    exact ⟨ob, vs, e.trans e1, h1.up l⟩
/-- the store where a new object stands beside that the store does not know -/
theorem RelS.beside {s : Sto} {p : Addr} {o : HO} (h : RelS K φ μ H s) (hp : H p = none) : RelS K φ μ (upd H p o) s := by
  refine ⟨h.nd, h.len, fun n c a e1 e2 => ?_, h.apart, fun q hq => ?_, h.one, h.tabs.new hp, fun q hq ps => by rw [upd_ne (by rintro rfl; exact h.here _ hq hp)]; exact h.nt q hq ps⟩
  · have ne : a ≠ p := by rintro rfl; exact (h.cell n c _ e1 e2).here hp
    exact (h.cell n c a e1 e2).up_but (Le.new hp h.here) (by rw [upd_ne ne])
  · have ne : q.2 ≠ p := by rintro rfl; exact h.here _ hq hp
    rw [upd_ne ne]; exact h.here q hq
/-- a new place -/
theorem RelS.laid {s : Sto} {p : Addr} {o : HO} {c : Cell} (h : RelS K φ μ H s) (hp : H p = none) (hc : RelC K φ μ (upd H p o) c p) : RelS K φ (μ ++ [p]) (upd H p o) (s ++ [c]) := by
  have hb := h.beside (o := o) hp
  have pm : p ∉ μ := fun z => h.here_mu z hp
  refine ⟨?_, by rw [List.length_append, List.length_append, h.len]; rfl, fun n c' a e1 e2 => ?_, fun a ha => ?_, hb.here, h.one, hb.tabs, hb.nt⟩
  · rw [List.nodup_append]
    exact ⟨h.nd, by simp, fun a ha b hb e => pm (by simp at hb; subst hb; subst e; exact ha)⟩
  · by_cases hn : n < s.length
    · rw [List.getElem?_append_left hn] at e1
      rw [List.getElem?_append_left (by rw [h.len]; exact hn)] at e2
      exact (hb.cell n c' a e1 e2).up_but Le.grow rfl
    · rw [List.getElem?_append_right (by omega)] at e1
      rw [List.getElem?_append_right (by rw [h.len]; omega), h.len] at e2
      have hn0 : n - s.length = 0 := by
        have := (List.getElem?_eq_some_iff.mp e1).1
        simp at this
        omega
      rw [hn0] at e1 e2
      have e1' : c = c' := by simpa using e1
      have e2' : p = a := by simpa using e2
      subst e1' e2'
      exact hc.up_but Le.grow rfl
  · intro z
    rcases List.mem_append.mp z with z | z
    · exact h.apart a ha z
    · have : a.2 = p := by simpa using z
      subst this
      exact h.here _ ha hp
/-- a place is written -/
theorem Le.write {s : Sto} {n : Nat} {a : Addr} {o u : HO} (h : RelS K φ μ H s) (e : μ[n]? = some a) (hu : H a = some u) (h1 : ∀ xs, u ≠ .tup xs) (h2 : ∀ x y, u ≠ .frz x y) : Le K φ μ H φ μ (upd H a o) :=
  ⟨fun _ h => h, List.prefix_refl _, fun b vs q => sqt_upd (fun o' xs z => by rw [hu] at z; cases z; exact h1 xs) (fun o' x xs z => by rw [hu] at z; cases z; exact h2 _ _) q,
    fun b x y q => by
      have : b ≠ a := by rintro rfl; rw [hu] at q; cases q; exact h2 _ _ rfl
      rw [upd_ne this]; exact q,
    fun b hb => by
      have : b.2 ≠ a := by rintro rfl; exact h.apart _ hb (List.mem_of_getElem? e)
      rw [upd_ne this],
    fun b q g => by
      have : b ≠ a := by
        rintro rfl
        have hn : n < s.length := by rw [← h.len]; exact (List.getElem?_eq_some_iff.mp e).1
        have hc0 := h.cell n _ b (List.getElem?_eq_getElem hn) e
        cases hcc : s[n] with
        | lst ds => rw [hcc] at hc0; obtain ⟨_, g1, _⟩ := hc0; rw [g] at g1; cases g1
        | dk kvs => rw [hcc] at hc0; obtain ⟨_, g1, _⟩ := hc0; rw [g] at g1; cases g1
        | ins c fs => rw [hcc] at hc0; obtain ⟨_, _, _, g1, _⟩ := hc0; rw [g] at g1; cases g1
        | lk kvs => rw [hcc] at hc0; obtain ⟨_, _, g1, _⟩ := hc0; rw [g] at g1; cases g1
      rw [upd_ne this]; exact g⟩
theorem RelS.write {s : Sto} {n : Nat} {a : Addr} {o u : HO} {c : Cell} (h : RelS K φ μ H s) (e : μ[n]? = some a) (hu : H a = some u) (h1 : ∀ xs, u ≠ .tup xs) (h2 : ∀ x y, u ≠ .frz x y) (hc : RelC K φ μ (upd H a o) c a) : RelS K φ μ (upd H a o) (s.set n c) := by
  have l : Le K φ μ H φ μ (upd H a o) := Le.write h e hu h1 h2
  have tb : TabOk K (upd H a o) := by
    have hn : n < s.length := by rw [← h.len]; exact (List.getElem?_eq_some_iff.mp e).1
    have hc0 := h.cell n _ a (List.getElem?_eq_getElem hn) e
    refine h.tabs.put hu (fun ps z => ?_) (fun q z => ?_)
    all_goals
      subst z
      cases hcc : s[n] with
      | lst ds => rw [hcc] at hc0; obtain ⟨_, g1, _⟩ := hc0; rw [hu] at g1; cases g1
      | dk kvs => rw [hcc] at hc0; obtain ⟨_, g1, _⟩ := hc0; rw [hu] at g1; cases g1
      | ins c fs => rw [hcc] at hc0; obtain ⟨_, _, _, g1, _⟩ := hc0; rw [hu] at g1; cases g1
      | lk kvs => rw [hcc] at hc0; obtain ⟨_, _, g1, _⟩ := hc0; rw [hu] at g1; cases g1
  refine ⟨h.nd, by rw [List.length_set]; exact h.len, fun m c' b e1 e2 => ?_, h.apart, fun b hb => ?_, h.one, tb, fun b hb ps => by rw [upd_ne (by rintro rfl; exact h.apart _ hb (List.mem_of_getElem? e))]; exact h.nt b hb ps⟩
  · by_cases hm : n = m
    · subst hm
      rw [e] at e2; cases e2
      have hn : n < s.length := by rw [← h.len]; exact (List.getElem?_eq_some_iff.mp e).1
      rw [List.getElem?_set_self hn] at e1
      cases e1
      exact hc
    · rw [List.getElem?_set_ne hm] at e1
      have ne : b ≠ a := by
        rintro rfl
        obtain ⟨l1, x1⟩ := List.getElem?_eq_some_iff.mp e
        obtain ⟨l2, x2⟩ := List.getElem?_eq_some_iff.mp e2
        exact hm ((List.getElem_inj h.nd).mp (x1.trans x2.symm))
      exact (h.cell m c' b e1 e2).up_but l (by rw [upd_ne ne])
  · by_cases hb2 : b.2 = a
    · rw [hb2, upd_same]; intro z; cases z
    · rw [upd_ne hb2]; exact h.here b hb
/-! keys -/
theorem RelM.nil {κ : Type} : RelM K φ μ H ([] : List (κ × D)) [] := ⟨rfl, RelL.nil⟩
theorem RelM.cons {κ : Type} {k : κ} {d : D} {v : V} {kvs : List (κ × D)} {ws : List (κ × V)} (h : RelD K φ μ H d v) (r : RelM K φ μ H kvs ws) : RelM K φ μ H ((k, d) :: kvs) ((k, v) :: ws) :=
  ⟨by rw [List.map_cons, List.map_cons, r.1], by rw [List.map_cons, List.map_cons]; exact .cons h r.2⟩
theorem RelM.of_cons {κ : Type} {k : κ} {d : D} {kvs : List (κ × D)} {ws : List (κ × V)} (h : RelM K φ μ H ((k, d) :: kvs) ws) : ∃ v r, ws = (k, v) :: r ∧ RelD K φ μ H d v ∧ RelM K φ μ H kvs r := by
  obtain ⟨h1, h2⟩ := h
  cases ws with
  | nil => cases h1
  | cons p r =>
    obtain ⟨k', v⟩ := p
    rw [List.map_cons, List.map_cons] at h1 h2
    injection h1 with e1 e2
    have e1 : k' = k := e1
    subst e1
    obtain ⟨v', r', e, h3, h4⟩ := h2.of_cons
    injection e with e3 e4
    have e3 : v = v' := e3
    subst e3
    exact ⟨v, r, rfl, h3, e2, e4 ▸ h4⟩
theorem RelM.of_nil {κ : Type} {ws : List (κ × V)} (h : RelM K φ μ H ([] : List (κ × D)) ws) : ws = [] := by
  cases ws with
  | nil => rfl
  | cons p r => cases h.1
theorem RelM.length {κ : Type} {kvs : List (κ × D)} {ws : List (κ × V)} (h : RelM K φ μ H kvs ws) : kvs.length = ws.length := by
  have := congrArg List.length h.1
  simpa using this.symm
theorem RelM.append {κ : Type} {kvs ls : List (κ × D)} {ws us : List (κ × V)} (h : RelM K φ μ H kvs ws) (g : RelM K φ μ H ls us) : RelM K φ μ H (kvs ++ ls) (ws ++ us) :=
  ⟨by rw [List.map_append, List.map_append, h.1, g.1], by rw [List.map_append, List.map_append]; exact h.2.append g.2⟩
theorem RelM.get {κ : Type} [DecidableEq κ] : ∀ {kvs : List (κ × D)} {ws : List (κ × V)} {k : κ} {d : D}, RelM K φ μ H kvs ws → kGet kvs k = some d → ∃ v, valV ws k = some v ∧ RelD K φ μ H d v
  | [], _, _, _, _, e => by cases e
  | (k', x) :: kvs, _, k, d, h, e => by
    obtain ⟨v, r, rfl, h1, h2⟩ := h.of_cons
    by_cases c : k' = k
    · have : x = d := by simpa [kGet, List.find?_cons, c] using e
      subst this
      exact ⟨v, valV_pos c, h1⟩
    · have e' : kGet kvs k = some d := by simpa [kGet, List.find?_cons, c] using e
      obtain ⟨v', g1, g2⟩ := RelM.get h2 e'
      exact ⟨v', (valV_neg c).trans g1, g2⟩
theorem RelM.lacks {κ : Type} [DecidableEq κ] : ∀ {kvs : List (κ × D)} {ws : List (κ × V)} {k : κ}, RelM K φ μ H kvs ws → kGet kvs k = none → valV ws k = none
  | [], _, _, h, _ => by rw [h.of_nil]; rfl
  | (k', x) :: kvs, _, k, h, e => by
    obtain ⟨v, r, rfl, h1, h2⟩ := h.of_cons
    by_cases c : k' = k
    · simp [kGet, List.find?_cons, c] at e
    · have e' : kGet kvs k = none := by simpa [kGet, List.find?_cons, c] using e
      exact (valV_neg c).trans (RelM.lacks h2 e')
theorem RelM.isSome {κ : Type} [DecidableEq κ] {kvs : List (κ × D)} {ws : List (κ × V)} {k : κ} (h : RelM K φ μ H kvs ws) : (valV ws k).isSome = (kGet kvs k).isSome := by
  cases e : kGet kvs k with
  | none => rw [h.lacks e]; rfl
  | some d => obtain ⟨v, e1, _⟩ := h.get e; rw [e1]; rfl
theorem RelM.any {κ : Type} [DecidableEq κ] : ∀ {kvs : List (κ × D)} {ws : List (κ × V)} {k : κ}, RelM K φ μ H kvs ws → (ws.any fun kv => decide (kv.1 = k)) = kvs.any fun kv => decide (kv.1 = k)
  | [], _, _, h => by rw [h.of_nil]; rfl
  | (k', x) :: kvs, _, k, h => by
    obtain ⟨v, r, rfl, h1, h2⟩ := h.of_cons
    rw [List.any_cons, List.any_cons, RelM.any h2]
theorem RelM.over {κ : Type} [DecidableEq κ] {d : D} {v : V} (hd : RelD K φ μ H d v) : ∀ {kvs : List (κ × D)} {ws : List (κ × V)} {k : κ}, RelM K φ μ H kvs ws → RelM K φ μ H (kvs.map fun kv => if kv.1 = k then (kv.1, d) else kv) (ws.map fun kv => if kv.1 = k then (kv.1, v) else kv)
  | [], _, _, h => by rw [h.of_nil]; exact .nil
  | (k', x) :: kvs, _, k, h => by
    obtain ⟨u, r, rfl, h1, h2⟩ := h.of_cons
    rw [List.map_cons, List.map_cons]
    by_cases c : k' = k
    · rw [if_pos c, if_pos c]; exact .cons hd (RelM.over hd h2)
    · rw [if_neg c, if_neg c]; exact .cons h1 (RelM.over hd h2)
theorem RelM.put {κ : Type} [DecidableEq κ] {kvs : List (κ × D)} {ws : List (κ × V)} {d : D} {v : V} (h : RelM K φ μ H kvs ws) (k : κ) (hd : RelD K φ μ H d v) : RelM K φ μ H (kPut kvs k d) (putK ws k v) := by
  unfold kPut putK
  rw [h.any]
  split
  · exact h.over hd
  · exact h.append (.cons hd .nil)
theorem RelM.merge : ∀ {more : List (Ky × D)} {ms : List (Ky × V)} {kvs : List (Ky × D)} {ws : List (Ky × V)}, RelM K φ μ H more ms → RelM K φ μ H kvs ws → RelM K φ μ H (kMerge kvs more) (mergeK ws ms)
  | [], _, _, _, h, g => by rw [h.of_nil]; exact g
  | (k, d) :: more, _, kvs, ws, h, g => by
    obtain ⟨v, r, rfl, h1, h2⟩ := h.of_cons
    exact RelM.merge (more := more) (ms := r) (kvs := kPut kvs k d) (ws := putK ws k v) h2 (g.put k h1)
theorem RelM.look : ∀ {fs : List (Str × D)} {ws : List (Str × V)} {f : Str} {d : D}, RelM K φ μ H fs ws → fs.lookup f = some d → ∃ v, ws.lookup f = some v ∧ RelD K φ μ H d v
  | [], _, _, _, _, e => by cases e
  | (k', x) :: kvs, _, k, d, h, e => by
    obtain ⟨v, r, rfl, h1, h2⟩ := h.of_cons
    rw [List.lookup_cons] at e ⊢
    cases c : k == k' with
    | true =>
      rw [c] at e
      cases e
      exact ⟨v, rfl, h1⟩
    | false =>
      rw [c] at e
      exact RelM.look h2 e
theorem RelM.lookn : ∀ {fs : List (Str × D)} {ws : List (Str × V)} {f : Str}, RelM K φ μ H fs ws → fs.lookup f = none → ws.lookup f = none
  | [], _, _, h, _ => by rw [h.of_nil]; rfl
  | (k', x) :: kvs, _, k, h, e => by
    obtain ⟨v, r, rfl, h1, h2⟩ := h.of_cons
    rw [List.lookup_cons] at e ⊢
    cases c : k == k' with
    | true =>
      rw [c] at e
      cases e
    | false =>
      rw [c] at e
      exact RelM.lookn h2 e
theorem RelM.fput {d : D} {v : V} (hd : RelD K φ μ H d v) : ∀ {fs : List (Str × D)} {ws : List (Str × V)} (f : Str), RelM K φ μ H fs ws → RelM K φ μ H (fPut f d fs) (putF f v ws)
  | [], _, f, h => by rw [h.of_nil]; exact .cons hd .nil
  | (k', x) :: kvs, _, f, h => by
    obtain ⟨u, r, rfl, h1, h2⟩ := h.of_cons
    unfold fPut putF
    split
    · exact .cons hd h2
    · exact .cons h1 (RelM.fput hd f h2)
theorem RelM.zip {κ : Type} : ∀ {ks : List κ} {ds : List D} {ws : List (κ × V)}, ws.map (·.1) = ks → RelL K φ μ H ds (ws.map (·.2)) → RelM K φ μ H (ks.zip ds) ws
  | [], ds, ws, e, h => by
    cases ws with
    | nil => exact .nil
    | cons _ _ => cases e
  | k :: ks, ds, ws, e, h => by
    cases ws with
    | nil => cases e
    | cons p r =>
      obtain ⟨k', v⟩ := p
      rw [List.map_cons] at e h
      injection e with e1 e2
      have e1 : k' = k := e1
      subst e1
      cases ds with
      | nil => exact absurd h.length (by simp)
      | cons d ds =>
        obtain ⟨v', r', e3, h1, h2⟩ := h.of_cons
        injection e3 with e4 e5
        have e4 : v = v' := e4
        subst e4
        rw [List.zip_cons_cons]
        exact .cons h1 (RelM.zip e2 (e5 ▸ h2))
/-! names -/
theorem RelE.set {xc : XcT} {env : Env} {σ : St} {i : Nat} {d : D} {v : V} (h : RelE xc K φ μ H env σ) (hi0 : xc.th ≠ none → i ≠ 0) (hd : RelD K φ μ H d v) : RelE xc K φ μ H (env.set i (some d)) (σ.set i (some v)) := by
  refine ⟨by rw [List.length_set, List.length_set]; exact h.len, fun j x e nj => ?_, fun t e => ?_⟩
  · by_cases hj : i = j
    · subst hj
      have hi : i < env.length := by
        have := (List.getElem?_eq_some_iff.mp e).1
        simpa using this
      rw [List.getElem?_set_self hi] at e
      cases e
      exact ⟨v, List.getElem?_set_self (by rw [← h.len]; exact hi), hd⟩
    · rw [List.getElem?_set_ne hj] at e
      rw [List.getElem?_set_ne hj]
      exact h.at_ j x e nj
  · have ne : i ≠ 0 := hi0 (by rw [e]; exact fun z => nomatch z)
    rw [List.getElem?_set_ne ne, List.getElem?_set_ne ne]
    exact h.cl t e
theorem RelE.unset {xc : XcT} {env : Env} {σ : St} {i : Nat} {o : Option V} (h : RelE xc K φ μ H env σ) (hi0 : xc.th ≠ none → i ≠ 0) : RelE xc K φ μ H (env.set i none) (σ.set i o) := by
  refine ⟨by rw [List.length_set, List.length_set]; exact h.len, fun j x e nj => ?_, fun t e => ?_⟩
  · by_cases hj : i = j
    · subst hj
      have hi : i < env.length := by
        have := (List.getElem?_eq_some_iff.mp e).1
        simpa using this
      rw [List.getElem?_set_self hi] at e
      cases e
    · rw [List.getElem?_set_ne hj] at e
      rw [List.getElem?_set_ne hj]
      exact h.at_ j x e nj
  · have ne : i ≠ 0 := hi0 (by rw [e]; exact fun z => nomatch z)
    rw [List.getElem?_set_ne ne, List.getElem?_set_ne ne]
    exact h.cl t e
end
end Mi

/-! # Readings by the evaluator -/
namespace Mi
open PySem L2
section
variable (K : PySem.W.Frag) (xc : XcT)
/-- a raised error -/
def RelX (φ : Fz) (μ : List Addr) (H : Hp) (c : String) (d : D) (cls : Value) (dx : Option Addr) : Prop :=
  ∃ C fI Dq a v, cls = .ref C ∧ dx = some a ∧ (true, a) ∈ φ ∧ H a = some (.xd [(("value" : Str), v)]) ∧ ErrAt K c C fI Dq ∧ RelD K φ μ H d v
abbrev Rl (α β : Type) := Fz → List Addr → Hp → α → β → Prop
/-- what is wanted of an expression's end -/
def Fin {α β : Type} (W : WX) (rel : Rl α β) (φ : Fz) (μ : List Addr) (H : Hp) (σ : St) (r : R α) (Q : β → Hp → Prop) : Prop := match r with
  | .ok a s' => ∀ φ' μ' H' b, Le K φ μ H φ' μ' H' → RelS K φ' μ' H' s' → rel φ' μ' H' a b → Q b H'
  | .ex c d s' => ∀ φ' μ' H' cls dx, Le K φ μ H φ' μ' H' → RelS K φ' μ' H' s' → RelX K φ' μ' H' c d cls dx → W cls dx σ H'
  | .no => False
/-- .. of a statement's -/
def FinS (W : WX) (φ : Fz) (μ : List Addr) (H : Hp) (r : RS) (D : Ends) : Prop := match r with
  | .ok f env' s' => ∀ φ' μ' H' σ', Le K φ μ H φ' μ' H' → RelS K φ' μ' H' s' → RelE xc K φ' μ' H' env' σ' → (match f with
    | .nxt => D.nx σ' H'
    | .brk => D.bk σ' H'
    | .cnt => D.ct σ' H'
    | .ret d => ∀ v, RelD K φ' μ' H' d v → D.rt v H')
  | .ex c d env' s' => ∀ φ' μ' H' σ' cls dx, Le K φ μ H φ' μ' H' → RelS K φ' μ' H' s' → RelE xc K φ' μ' H' env' σ' → RelX K φ' μ' H' c d cls dx → W cls dx σ' H'
  | .no => False
end
section
variable {K : PySem.W.Frag} {xc : XcT} {W : WX} {α β γ δ : Type} {φ φ1 : Fz} {μ μ1 : List Addr} {H H1 : Hp} {σ : St}
theorem Fin.up {rel : Rl α β} {r : R α} {Q : β → Hp → Prop} (l : Le K φ μ H φ1 μ1 H1) (h : Fin K W rel φ μ H σ r Q) : Fin K W rel φ1 μ1 H1 σ r Q := by
  cases r with
  | ok a s' => exact fun φ' μ' H' b l' => h φ' μ' H' b (l.trans l')
  | ex c d s' => exact fun φ' μ' H' cls dx l' => h φ' μ' H' cls dx (l.trans l')
  | no => exact h
theorem FinS.up {r : RS} {D : Ends} (l : Le K φ μ H φ1 μ1 H1) (h : FinS K xc W φ μ H r D) : FinS K xc W φ1 μ1 H1 r D := by
  cases r with
  | ok a e s' => exact fun φ' μ' H' b l' => h φ' μ' H' b (l.trans l')
  | ex c d e s' => exact fun φ' μ' H' σ' cls dx l' => h φ' μ' H' σ' cls dx (l.trans l')
  | no => exact h
/-- first this, then that -/
theorem Fin.bind {rel1 : Rl α β} {rel2 : Rl γ δ} {r : R α} {f : α → Sto → R γ} {Q : δ → Hp → Prop} {Q1 : β → Hp → Prop} (h : Fin K W rel2 φ μ H σ (r.bind f) Q)
    (k : ∀ a s' φ' μ' H' b, Le K φ μ H φ' μ' H' → RelS K φ' μ' H' s' → rel1 φ' μ' H' a b → Fin K W rel2 φ' μ' H' σ (f a s') Q → Q1 b H') : Fin K W rel1 φ μ H σ r Q1 := by
  cases r with
  | ok a s' => exact fun φ' μ' H' b l rs rl => k a s' φ' μ' H' b l rs rl (Fin.up l h)
  | ex c d s' => exact h
  | no => exact h
theorem FinS.bind {rel1 : Rl α β} {r : R α} {f : α → Sto → RS} {env : Env} {D : Ends} {Q1 : β → Hp → Prop} (re : RelE xc K φ μ H env σ) (h : FinS K xc W φ μ H (r.toS env f) D)
    (k : ∀ a s' φ' μ' H' b, Le K φ μ H φ' μ' H' → RelS K φ' μ' H' s' → rel1 φ' μ' H' a b → FinS K xc W φ' μ' H' (f a s') D → Q1 b H') : Fin K W rel1 φ μ H σ r Q1 := by
  cases r with
  | ok a s' => exact fun φ' μ' H' b l rs rl => k a s' φ' μ' H' b l rs rl (FinS.up l h)
  | ex c d s' => exact fun φ' μ' H' cls dx l rs rx => h φ' μ' H' σ cls dx l rs (re.up l) rx
  | no => exact h
/-- at the end -/
theorem Fin.here {rel : Rl α β} {a : α} {s : Sto} {Q : β → Hp → Prop} {b : β} (h : Fin K W rel φ μ H σ (.ok a s) Q) (rs : RelS K φ μ H s) (rl : rel φ μ H a b) : Q b H := h φ μ H b Le.refl rs rl
theorem Fin.ofO {rel : Rl α β} {o : Option α} {s : Sto} {Q : β → Hp → Prop} (h : Fin K W rel φ μ H σ (R.ofO o s) Q) : ∃ a, o = some a ∧ Fin K W rel φ μ H σ (.ok a s) Q := by
  cases o with
  | some a => exact ⟨a, rfl, h⟩
  | none => exact h.elim
end
/-! the readings -/
section
variable (K : PySem.W.Frag) (xc : XcT) (o : Orc) (W : WX)
def relB : Rl Bool Bool := fun _ _ _ a b => a = b
def SqA (t : Bool) (H : Hp) (a : Addr) (vs : List V) : Prop := if t = true then SqT K H a vs else SqL K H a vs
/-- a sequence that is only read -/
def relQ : Rl (Bool × List D) V := fun φ μ H q v => ∃ a vs, v = .ref a ∧ SqA K q.1 H a vs ∧ RelL K φ μ H q.2 vs
/-- a new list that the store does not know -/
def relN : Rl (List D) V := fun φ μ H xs v => ∃ a vs, v = .ref a ∧ H a = some (.lst vs) ∧ (∀ b, (b, a) ∉ φ) ∧ a ∉ μ ∧ RelL K φ μ H xs vs
def relP : Rl P V := fun φ μ H p v => match p with
  | .val d => RelD K φ μ H d v
  | .new xs => relN K φ μ H xs v
  | .rg _ => False
  | .it _ => False
def rdP (e : E) : TE := fun σ H Q => ∃ φ μ env s, RelS K φ μ H s ∧ RelE xc K φ μ H env σ ∧ Fin K W (relP K) φ μ H σ (ev o e env s) Q
def rdE (e : E) : TE := fun σ H Q => ∃ φ μ env s, RelS K φ μ H s ∧ RelE xc K φ μ H env σ ∧ Fin K W (RelD K) φ μ H σ (evv o e env s) Q
def rdQ (e : E) : TE := fun σ H Q => ∃ φ μ env s, RelS K φ μ H s ∧ RelE xc K φ μ H env σ ∧ Fin K W (relQ K) φ μ H σ ((ev o e env s).bindq fun q s1 => .ok q s1) Q
def rdT (e : E) : TT := fun σ H Q => ∃ φ μ env s, RelS K φ μ H s ∧ RelE xc K φ μ H env σ ∧ Fin K W relB φ μ H σ (tst o e env s) Q
def rdA (es : Es) : TA := fun σ H Q => ∃ φ μ env s, RelS K φ μ H s ∧ RelE xc K φ μ H env σ ∧ Fin K W (RelL K) φ μ H σ (evs o es env s) Q
def rdS (st : S) : TS := fun D σ H => ∃ φ μ env s, RelS K φ μ H s ∧ RelE xc K φ μ H env σ ∧ FinS K xc W φ μ H (evS o st env s) D
def rdSs (st : Ss) : TS := fun D σ H => ∃ φ μ env s, RelS K φ μ H s ∧ RelE xc K φ μ H env σ ∧ FinS K xc W φ μ H (evSs o st env s) D
end
theorem PE.imp {X : Cx} {e : Expr} {t t' : TE} (h : PE X e t) (i : ∀ σ H Q, t' σ H Q → t σ H Q) : PE X e t' := ⟨fun pins s σ H Q I q => h.run pins s σ H Q I (i σ H Q q)⟩
theorem PT.imp {X : Cx} {e : Expr} {t t' : TT} (h : PT X e t) (i : ∀ σ H Q, t' σ H Q → t σ H Q) : PT X e t' := ⟨fun pins s σ H Q I q => h.run pins s σ H Q I (i σ H Q q)⟩
theorem PA.imp {X : Cx} {e : List Expr} {t t' : TA} (h : PA X e t) (i : ∀ σ H Q, t' σ H Q → t σ H Q) : PA X e t' := ⟨fun pos pins s σ H Q I q => h.run pos pins s σ H Q I (i σ H Q q)⟩
theorem PS.imp {X : Cx} {e : Stmt} {t t' : TS} (h : PS X e t) (i : ∀ D σ H, t' D σ H → t D σ H) : PS X e t' := ⟨fun pins s σ H D I q => h.run pins s σ H D I (i D σ H q)⟩
theorem PSs.imp {X : Cx} {e : List Stmt} {t t' : TS} (h : PSs X e t) (i : ∀ D σ H, t' D σ H → t D σ H) : PSs X e t' := ⟨fun pins s σ H D I q => h.run pins s σ H D I (i D σ H q)⟩
/-! ### values, one by one -/
section
variable {K : PySem.W.Frag} {φ : Fz} {μ : List Addr} {H : Hp} {v : V}
theorem relD_int {i : Int} (h : RelD K φ μ H (.int i) v) : v = .int i := by unfold RelD at h; exact h
theorem relD_bl {i : Bool} (h : RelD K φ μ H (.bl i) v) : v = .bl i := by unfold RelD at h; exact h
theorem relD_str {i : Str} (h : RelD K φ μ H (.str i) v) : v = .str i := by unfold RelD at h; exact h
theorem relD_non (h : RelD K φ μ H .non v) : v = .non := by unfold RelD at h; exact h
theorem relD_tup {ds : List D} (h : RelD K φ μ H (.tup ds) v) : ∃ a vs, v = .ref a ∧ SqT K H a vs ∧ RelL K φ μ H ds vs := by unfold RelD at h; exact h
theorem relD_flst {ds : List D} (h : RelD K φ μ H (.flst ds) v) : ∃ a vs, v = .ref a ∧ FzL K φ H a vs ∧ RelL K φ μ H ds vs := by unfold RelD at h; exact h
theorem relD_loc {n : Nat} (h : RelD K φ μ H (.loc n) v) : ∃ a, v = .ref a ∧ μ[n]? = some a := by unfold RelD at h; exact h
theorem mk_int {i : Int} : RelD K φ μ H (.int i) (.int i) := by unfold RelD; rfl
theorem mk_bl {i : Bool} : RelD K φ μ H (.bl i) (.bl i) := by unfold RelD; rfl
theorem mk_str {i : Str} : RelD K φ μ H (.str i) (.str i) := by unfold RelD; rfl
theorem mk_non : RelD K φ μ H .non .non := by unfold RelD; rfl
theorem mk_tup {ds : List D} {a : Addr} {vs : List V} (h : SqT K H a vs) (r : RelL K φ μ H ds vs) : RelD K φ μ H (.tup ds) (.ref a) := by unfold RelD; exact ⟨a, vs, rfl, h, r⟩
theorem mk_flst {ds : List D} {a : Addr} {vs : List V} (h : FzL K φ H a vs) (r : RelL K φ μ H ds vs) : RelD K φ μ H (.flst ds) (.ref a) := by unfold RelD; exact ⟨a, vs, rfl, h, r⟩
theorem mk_loc {n : Nat} {a : Addr} (h : μ[n]? = some a) : RelD K φ μ H (.loc n) (.ref a) := by unfold RelD; exact ⟨a, rfl, h⟩
/-- the items of a sequence -/
theorem sq_rel {s : Sto} {d : D} {q : Bool × List D} (rs : RelS K φ μ H s) (rd : RelD K φ μ H d v) (h : sq d s = some q) : relQ K φ μ H q v := by
  cases d with
  | tup ds =>
    obtain ⟨a, vs, e, h1, h2⟩ := relD_tup rd
    cases h
    exact ⟨a, vs, e, h1, h2⟩
  | flst ds =>
    obtain ⟨a, vs, e, h1, h2⟩ := relD_flst rd
    cases h
    exact ⟨a, vs, e, h1.sq, h2⟩
  | loc n =>
    obtain ⟨a, e, h1⟩ := relD_loc rd
    simp only [sq] at h
    cases z : s[n]? with
    | none => simp [z] at h
    | some c =>
      cases c with
      | lst ys =>
        simp only [z, Option.some.injEq] at h
        subst h
        obtain ⟨vs, e1, e2⟩ := rs.cell n _ a z h1
        exact ⟨a, vs, e, SqL.of e1, e2⟩
      | dk _ => simp [z] at h
      | ins _ _ => simp [z] at h
      | lk _ => simp [z] at h
  | _ => cases h
theorem relD_fdk {ks : List Ky} {ds : List D} (h : RelD K φ μ H (.fdk ks ds) v) : ∃ a o ws, v = .ref a ∧ H a = some (.frz o (.dK ws)) ∧ ws.map (·.1) = ks ∧ RelL K φ μ H ds (ws.map (·.2)) := by unfold RelD at h; exact h
theorem relD_fins {c : Str} {fs : List Str} {ds : List D} (h : RelD K φ μ H (.fins c fs ds) v) : ∃ a C dx ws, v = .ref a ∧ (true, a) ∈ φ ∧ H a = some (.ins C dx ws) ∧ ClsAt K c C ∧ ws.map (·.1) = fs ∧ RelL K φ μ H ds (ws.map (·.2)) := by unfold RelD at h; exact h
theorem relD_exc {c : String} {d : D} (h : RelD K φ μ H (.exc c d) v) : ∃ a C fI Dq dd w, v = .ref a ∧ (true, a) ∈ φ ∧ (true, dd) ∈ φ ∧ H a = some (ErrO (.ref C) dd a) ∧ H dd = some (.xd [(("value" : Str), w)]) ∧ ErrAt K c C fI Dq ∧ RelD K φ μ H d w := by unfold RelD at h; exact h
theorem relD_clo {n : Nat} {ds : List D} (h : RelD K φ μ H (.clo n ds) v) : False := by unfold RelD at h; exact h
theorem dic_rel {s : Sto} {d : D} {kvs : List (Ky × D)} (rs : RelS K φ μ H s) (rd : RelD K φ μ H d v) (h : dicOf d s = some kvs) : ∃ a ws, v = .ref a ∧ Rd H a (.dK ws) ∧ RelM K φ μ H kvs ws := by
  cases d with
  | fdk ks ds =>
    obtain ⟨a, o, ws, e, h1, h2, h3⟩ := relD_fdk rd
    cases h
    exact ⟨a, ws, e, .inr ⟨o, h1⟩, RelM.zip h2 h3⟩
  | loc n =>
    obtain ⟨a, e, h1⟩ := relD_loc rd
    simp only [dicOf] at h
    cases z : s[n]? with
    | none => simp [z] at h
    | some c =>
      cases c with
      | dk kvs' =>
        simp only [z, Option.some.injEq] at h
        subst h
        obtain ⟨ws, e1, e2⟩ := rs.cell n _ a z h1
        exact ⟨a, ws, e, .inl e1, e2⟩
      | lk kvs' =>
        simp only [z, Option.some.injEq] at h
        subst h
        obtain ⟨ob, ws, e1, e2⟩ := rs.cell n _ a z h1
        exact ⟨a, ws, e, .inr ⟨ob, e1⟩, e2⟩
      | lst _ => simp [z] at h
      | ins _ _ => simp [z] at h
  | _ => cases h
theorem ins_rel {s : Sto} {d : D} {q : Str × List (Str × D)} (rs : RelS K φ μ H s) (rd : RelD K φ μ H d v) (h : insOf d s = some q) : ∃ a C dx ws, v = .ref a ∧ H a = some (.ins C dx ws) ∧ ClsAt K q.1 C ∧ RelM K φ μ H q.2 ws := by
  cases d with
  | fins c fs ds =>
    obtain ⟨a, C, dx, ws, e, _, h1, h2, h3, h4⟩ := relD_fins rd
    cases h
    exact ⟨a, C, dx, ws, e, h1, h2, RelM.zip h3 h4⟩
  | loc n =>
    obtain ⟨a, e, h1⟩ := relD_loc rd
    simp only [insOf] at h
    cases z : s[n]? with
    | none => simp [z] at h
    | some c =>
      cases c with
      | ins c fs =>
        simp only [z, Option.some.injEq] at h
        subst h
        obtain ⟨C, dx, ws, e1, e2, e3⟩ := rs.cell n _ a z h1
        exact ⟨a, C, dx, ws, e, e1, e2, e3⟩
      | lst _ => simp [z] at h
      | dk _ => simp [z] at h
      | lk _ => simp [z] at h
  | _ => cases h
theorem key_rel {d : D} {k : Ky} (rd : RelD K φ μ H d v) (h : keyOf d = some k) : v = kV k := by
  cases d <;> first | (cases h; done) | skip
  · cases h; exact relD_int rd
  · cases h; exact relD_str rd
theorem mk_key (k : Ky) : RelD K φ μ H (keyD k) (kV k) := by
  cases k with
  | inl i => exact mk_int
  | inr x => exact mk_str
end
/-- things are locked for ever -/
inductive Lk (q : Hp → Prop) : Hp → Prop where
  | done {H : Hp} (h : q H) : Lk q H
  | lock {H : Hp} {d : Addr} {u : HO} (h : H d = some u) (mu : Mut (some u)) (r : ∀ od, Lk q (upd H d (.frz od u))) : Lk q H
theorem Lk.run {X : Cx} {pins : List (Addr × Obj)} {σ : St} {s : Shared} {q : Hp → Prop} {H : Hp} (l : Lk q H) : L2.Inv X pins σ H s → ∃ H', L2.Inv X pins σ H' s ∧ q H' := by
  induction l with
  | done h => exact fun I => ⟨_, I, h⟩
  | lock h mu r ih =>
    intro I
    obtain ⟨od, J⟩ := I.lock h mu
    exact ih od J
theorem RelC.fresh_ok {K : PySem.W.Frag} {φ : Fz} {μ : List Addr} {H : Hp} {a : Addr} {vs : List V} {xs : List D} (h : H a = some (.lst vs)) (r : RelL K φ μ H xs vs) : RelC K φ μ H (.lst xs) a := ⟨vs, h, r⟩
/-- a new thing is given a place -/
theorem RelS.placeC {K : PySem.W.Frag} {φ : Fz} {μ : List Addr} {H : Hp} {s : Sto} {a : Addr} {cn : Cell} (rs : RelS K φ μ H s) (hcn : RelC K φ μ H cn a) (n1 : ∀ b, (b, a) ∉ φ) (n2 : a ∉ μ) :
    RelS K φ (μ ++ [a]) H (s ++ [cn]) ∧ (μ ++ [a])[s.length]? = some a := by
  refine ⟨⟨?_, by rw [List.length_append, List.length_append, rs.len]; rfl, fun n c b e1 e2 => ?_, fun b hb z => ?_, rs.here, rs.one, rs.tabs, rs.nt⟩, by rw [← rs.len]; simp⟩
  · rw [List.nodup_append]
    refine ⟨rs.nd, by simp, fun x hx y hy e => n2 ?_⟩
    have : y = a := by simpa using hy
    rw [← this, ← e]; exact hx
  · by_cases hn : n < s.length
    · rw [List.getElem?_append_left hn] at e1
      rw [List.getElem?_append_left (by rw [rs.len]; exact hn)] at e2
      exact (rs.cell n c b e1 e2).up_but Le.grow rfl
    · rw [List.getElem?_append_right (by omega)] at e1
      rw [List.getElem?_append_right (by rw [rs.len]; omega), rs.len] at e2
      have hn0 : n - s.length = 0 := by
        have := (List.getElem?_eq_some_iff.mp e1).1
        simp at this
        omega
      rw [hn0] at e1 e2
      have e1' : cn = c := by simpa using e1
      have e2' : a = b := by simpa using e2
      subst e1' e2'
      exact hcn.up_but Le.grow rfl
  · rcases List.mem_append.mp z with z | z
    · exact rs.apart b hb z
    · have : b.2 = a := by simpa using z
      exact n1 b.1 (this ▸ hb)
theorem RelS.place {K : PySem.W.Frag} {φ : Fz} {μ : List Addr} {H : Hp} {s : Sto} {a : Addr} {vs : List V} {xs : List D} (rs : RelS K φ μ H s) (h : H a = some (.lst vs)) (n1 : ∀ b, (b, a) ∉ φ) (n2 : a ∉ μ) (r : RelL K φ μ H xs vs) :
    RelS K φ (μ ++ [a]) H (s ++ [.lst xs]) ∧ (μ ++ [a])[s.length]? = some a := rs.placeC (cn := .lst xs) ⟨vs, h, r⟩ n1 n2
section
variable {K : PySem.W.Frag} {xc : XcT} {o : Orc} {W : WX} {X : Cx} {e : E} {x : Expr}
theorem to_E (h : PE X x (rdP K xc o W e)) : PE X x (rdE K xc o W e) := PE.imp h fun σ H Q => by
  rintro ⟨φ, μ, env, s, rs, re, h⟩
  refine ⟨φ, μ, env, s, rs, re, Fin.bind (r := ev o e env s) h fun p s' φ' μ' H' v l rs' rl h' => ?_⟩
  cases p with
  | val d => exact h'.here rs' rl
  | new xs =>
    obtain ⟨a, vs, e1, h1, n1, n2, r⟩ := rl
    obtain ⟨p1, p2⟩ := rs'.place h1 n1 n2 r
    exact h' _ _ _ _ Le.grow p1 (e1 ▸ mk_loc p2)
  | rg xs => exact rl.elim
  | it xs => exact rl.elim
theorem sqP_rel {φ : Fz} {μ : List Addr} {H : Hp} {s : Sto} {p : P} {v : V} {q : Bool × List D} (rs : RelS K φ μ H s) (rl : relP K φ μ H p v) (h : sqP p s = some q) : relQ K φ μ H q v := by
  cases p with
  | val d => exact sq_rel rs rl h
  | new xs =>
    obtain ⟨a, vs, e1, h1, n1, n2, r⟩ := rl
    cases h
    exact ⟨a, vs, e1, SqL.of h1, r⟩
  | rg xs => exact rl.elim
  | it xs => exact rl.elim
theorem to_Q (h : PE X x (rdP K xc o W e)) : PE X x (rdQ K xc o W e) := PE.imp h fun σ H Q => by
  rintro ⟨φ, μ, env, s, rs, re, h⟩
  refine ⟨φ, μ, env, s, rs, re, Fin.bind (r := ev o e env s) h fun p s' φ' μ' H' v l rs' rl h' => ?_⟩
  cases q : sqP p s' with
  | none => simp only [q, R.ofO_none, R.bind_no] at h'; exact h'.elim
  | some ys =>
    simp only [q, R.ofO_some, R.bind_ok] at h'
    exact h'.here rs' (sqP_rel rs' rl q)
end
end Mi

/-! # A set of texts is made -/
namespace Mi
open PySem PySem.Spec PyProof.Rows
/-- the object of a new set -/
abbrev noS (b : Bool) : Obj := { cls := .type "set", dict := none, data := .set #[] 0 (.fresh 0 0 b) }
/-- one text more -/
def addT (l : List Str) (x : Str) : List Str := if x ∈ l then l else l ++ [x]
/-- the unlike ones -/
def dedT (xs : List Str) : List Str := xs.foldl addT []
theorem addT_len (l : List Str) (x : Str) : (addT l x).length ≤ l.length + 1 := by
  unfold addT
  split
  · omega
  · simp
theorem addT_mem {l : List Str} {x y : Str} : y ∈ addT l x ↔ y ∈ l ∨ y = x := by
  unfold addT
  split
  · rename_i c
    exact ⟨.inl, fun z => z.elim id fun e => e ▸ c⟩
  · simp
theorem dedT_same : ∀ {xs l : List Str}, (l ++ xs).Nodup → xs.foldl addT l = l ++ xs
  | [], l, _ => by simp
  | x :: xs, l, h => by
    have hx : x ∉ l := fun z => by
      rw [List.nodup_append] at h
      exact h.2.2 x z x List.mem_cons_self rfl
    rw [List.foldl_cons]
    have e : addT l x = l ++ [x] := if_neg hx
    rw [e, dedT_same (by simpa using h)]
    simp
/-- it holds just these -/
def InS (P : Program) (w : World) (h : Heap) (a : Addr) (l : List Str) : Prop := h.SetOf (PySem.strKind P w) a (fun k => decide (k ∈ l)) l.length
theorem InS.keep {P : Program} {w : World} {h g : Heap} {a : Addr} {l : List Str} (x : InS P w h a l) (k : ∀ o, h.get? a = some o → g.get? a = some o) : InS P w g a l := by
  obtain ⟨o, es, ep, t, e, r⟩ := x
  exact ⟨o, es, ep, t, k o e, r⟩
section
variable {P : Program} {w : World} {A : Around} {R : Result → Shared → Prop} {it : Addr} {own turned : List Addr} {Gn : Array GenState → Array GenState → Prop} {n : Nat} {Pv : Nat → Value → Prop} {Sv : Nat → Shared → Prop}
/-- the texts that are left are put in, one by one -/
theorem fill (W : WalksS P w A.in1 it own turned Gn n Pv Sv) (a : Addr) (ha : a ∉ own) (xs : List Str) (hx : ∀ i v, Pv i v → ∃ x t, xs[i]? = some x ∧ v = Value.str x t) :
    ∀ (todo got : List Str) (i : Nat) (s : Shared), i + todo.length = n → xs.drop i = todo → Sv i s → InS P w s.heap a got → got.length + todo.length + 1 < scanBound →
      (∀ s', Moved (a :: turned) Gn s s' → InS P w s'.heap a (todo.foldl addT got) → R (.ok (.ret .none)) s') → codeAny (model P w) A (.builtin "set.update.loop" ⟨[.ref a, .ref it], []⟩) R s := by
  have ha2 : a ∉ turned := fun z => ha (W.sub a z)
  have wide : ∀ b ∈ turned, b ∈ a :: turned := fun b z => List.mem_cons_of_mem a z
  intro todo
  induction todo with
  | nil =>
    intro got i s hi _ st inS _ fin
    have e : i = n := by simpa using hi
    subst e
    refine codeAny_builtin PyProof.Rows.F.entry_set_update_loop (by
      rw [Around.under_plainId PyProof.Rows.F.plain_set_update_loop _]
      show wpAny _ A.in1 (pyNext (.ref it) >>= _) _ _ s
      refine wpAny_bind (W.done s _ _ st fun s' mv => ?_)
      show wpAny _ A.in1 (ret Value.none) _ _ s'
      exact wpAny_pure (fin s' (mv.mono wide) (inS.keep fun o => mv.heap a o ha2)))
  | cons x todo ih =>
    intro got i s hi hd st inS small fin
    rw [List.length_cons] at hi small
    have at_ : xs[i]? = some x := by
      have := congrArg (·[0]?) hd
      simpa using this
    have hd2 : xs.drop (i + 1) = todo := by
      have := congrArg (List.drop 1) hd
      simpa [List.drop_drop, Nat.add_comm] using this
    refine codeAny_builtin PyProof.Rows.F.entry_set_update_loop (by
      rw [Around.under_plainId PyProof.Rows.F.plain_set_update_loop _]
      show wpAny _ A.in1 (pyNext (.ref it) >>= _) _ _ s
      refine wpAny_bind (W.item i s _ _ (by omega) st fun v s1 pv st1 mv => ?_)
      obtain ⟨y, t, e1, e2⟩ := hx i v pv
      rw [at_] at e1
      cases e1
      subst e2
      have in1 : InS P w s1.heap a got := inS.keep fun o => mv.heap a o ha2
      show wpAny _ A.in1 (holding [Value.str x t] (setAdd a (.str x t)) >>= _) _ _ s1
      refine wpAny_bind (wpAny_holding ?_)
      unfold setAdd
      refine wpAny_holding (wpAny_bind ((PySem.strKind P w).pyHash (k := x) (strKind_is _ _ _ _) ?_))
      refine wpAny_setAddHashed_of (knd := PySem.strKind P w) (s := { s1 with toks := s1.toks + 1 }) (strKind_is _ _ _ _) rfl in1 (by omega) fun g sb in2 => ?_
      have in3 : InS P w g a (addT got x) := by
        refine SetOf_congr in2 (fun z => ?_) ?_
        · rw [Bool.eq_iff_iff]
          simp [addT_mem]
        · unfold addT
          by_cases c : x ∈ got
          · simp [c]
          · simp [c]
      have other : ∀ b o, b ≠ a → s1.heap.get? b = some o → g.get? b = some o := fun b o nb e => (sb.2 b nb).trans e
      refine wpAny_pure ⟨plainId_quiet PyProof.Rows.F.plain_set_update_loop _, ih (addT got x) (i + 1) _ (by omega) hd2 ?_ in3 (by have := addT_len got x; omega) fun s2 mv2 in4 => ?_⟩
      · exact W.frame _ s1 _ _ st1 (Nat.le_succ _) fun b hb o e => other b o (fun z => ha (z ▸ hb)) e
      · refine fin s2 (Moved.trans W.gtrans ((mv.mono wide).then_heap (Nat.le_succ _) fun b o hb e => ?_) mv2) in4
        exact other b o (fun z => hb (z ▸ List.mem_cons_self)) e)
end
section
variable {P : Program} {w : World} {A : Around} {E : Value → Shared → Prop} {s : Shared}
/-- __init__ of a new set, of what pyIter goes along -/
theorem init_set {it : Addr} {b : Bool} {xs : List Str} {own turned : List Addr} {Pv : Nat → Value → Prop} {Sv : Nat → Shared → Prop} {s1 : Shared} {Q : Value → Shared → Prop} (W : WalksS P w A.in1 it own turned (fun a b => b = a) xs.length Pv Sv) (ho : s.heap.objs.size ∉ own)
    (hx : ∀ i v, Pv i v → ∃ x t, xs[i]? = some x ∧ v = Value.str x t) (hb : xs.length + 1 < scanBound) (st : Sv 0 s1) (e1 : s1.gens = s.gens) (e2 : s1.drawn = s.drawn) (e3 : s1.os = s.os) (hs : s1.heap.get? s.heap.objs.size = some (noS b))
    (hq : ∀ g tk, InS P w g s.heap.objs.size (dedT xs) → (∀ c o, c ∉ s.heap.objs.size :: turned → s1.heap.get? c = some o → g.get? c = some o) → Q .none { s with heap := g, toks := tk }) :
    codeAny (model P w) A (.builtin "set.update.loop" ⟨[.ref s.heap.objs.size, .ref it], []⟩) (wants Q E) s1 := by
  refine fill W s.heap.objs.size ho xs hx xs [] 0 s1 (by simp) rfl st ?_ (by simpa using hb) fun s2 mv inS => ?_
  · exact SetOf_congr ((setObjOf_fresh (knd := PySem.strKind P w) b).setOf hs (by unfold scanBound; omega)) (fun _ => rfl) rfl
  · obtain ⟨g, gn, dr, tk, os⟩ := s2
    have q1 : gn = s.gens := mv.gens.trans e1
    have q2 : dr = s.drawn := mv.drawn.trans e2
    have q3 : os = s.os := mv.os.trans e3
    subst q1 q2 q3
    exact hq g tk inS fun c o hc => mv.heap c o hc
/-- set(xs) of a tuple of texts -/
theorem set_tup {l : Addr} {items : Array Value} {xs : List Str} {Q : Value → Shared → Prop} (hh : A.handled = none) (hl : s.heap.IsTuple l items) (hv : ∀ (i : Nat) v, items[i]? = some v → ∃ x t, xs[i]? = some x ∧ v = Value.str x t) (hn : xs.length = items.size) (hb : xs.length + 1 < scanBound)
    (fin : ∀ g tk, InS P w g s.heap.objs.size (dedT xs) → (∀ c o, c < s.heap.objs.size → s.heap.get? c = some o → g.get? c = some o) → Q (.ref s.heap.objs.size) { s with heap := g, toks := tk }) : wpAny (model P w) A (call (.type "set") [.ref l]) Q E s := by
  have K := PySem.F.called_set
  obtain ⟨c0, tl, hmro⟩ := K.mro
  have made := K.made
  have subs := K.sub
  have nt := K.notType
  have cc := K.canCreate
  have ct := PySem.F.typeCall_set_1 (.ref l)
  refine wpAny_call (codeAny_of_tree ?_)
  show wpAny _ _ (callAny (.type "set") _) _ _ _
  refine wpAny_pure ⟨Code.quiet_builtin _ (by decide +kernel), codeAny_builtin PySem.F.entry_type_call ?_⟩
  rw [Around.under_plain (weight_type_call_type "set" [.ref l] []) rfl]
  repeat (any_goals (first | assumption | wp_step))
  refine codeAny_mono (code_set_new_1 (.ref l) (E := E) (Q₁ := fun u z => ∃ b : Bool, u = .ref s.heap.objs.size ∧ z = { s with heap := s.heap.push (noS b) }) fun b => ⟨b, rfl, rfl⟩) fun r s1 hr => ?_
  match r, hr with
  | .error _, hr => exact hr
  | .ok .next, hr => exact hr.elim
  | .ok .brk, hr => exact hr.elim
  | .ok .cont, hr => exact hr.elim
  | .ok (.ret u), hr =>
    obtain ⟨b, e1, e2⟩ := hr
    subst e1 e2
    have here : (s.heap.push (noS b)).get? s.heap.objs.size = some (noS b) := Heap.get?_push_size _ rfl
    have isSet : Shared.TypeIs { s with heap := s.heap.push (noS b) } (.ref s.heap.objs.size) "set" := ⟨_, here, rfl⟩
    have look := K.init.lookup
    have bound := K.init.bind (.ref s.heap.objs.size)
    repeat (any_goals (first | assumption | wp_step))
    refine codeAny_mono (codeAny_call_builtin (R := wants (fun u z => u = .none ∧ ∃ g tk, z = { s with heap := g, toks := tk } ∧ InS P w g s.heap.objs.size (dedT xs) ∧ ∀ c o, c < s.heap.objs.size → s.heap.get? c = some o → g.get? c = some o) E) K.init.plain PySem.F.entry_set_init (check_set_init_1 isSet ?_)) fun r2 s2 hr2 => ?_
    · have lt : l < s.heap.objs.size := (let ⟨_, e, _⟩ := hl; Heap.lt_size e)
      obtain ⟨⟨oc, od, dt, sl⟩, hol, hcl, nl, hdl⟩ := id hl
      simp only at hcl hdl
      subst hcl hdl
      have old : (s.heap.push (noS b)).get? l = some { cls := .type "tuple", dict := od, data := .seq items nl, slots := sl } := Heap.get?_push_of_some _ hol
      have tup1 : (s.heap.push (noS b)).IsTuple l items := ⟨_, old, rfl, nl, rfl⟩
      have sub1 := PySem.F.sub_tuple_set
      have sub2 := PySem.F.sub_tuple_frozenset
      have nd : (Value.type "tuple" == Value.type "dict") = false := by decide
      have sz : (s.heap.push (noS b)).objs.size = s.heap.objs.size + 1 := Heap.size_push _ _
      unfold Builtin.«set.__init__» noKeywords Builtin.Frozenset.updateFrom
      generalize goes : pyIter = PI
      wp_walk
      subst goes
      refine wpAny_pyIter_tuple tup1 (wpAny_bind (wpAny_runValue ?_))
      refine init_set (b := b) (xs := xs) (s := s) (own := [(s.heap.push (noS b)).objs.size, l]) (turned := [(s.heap.push (noS b)).objs.size]) (hn ▸ (Walks.tuple (by simpa using hh) _ l (by rw [sz]; exact Nat.ne_of_lt (Nat.lt_succ_of_lt lt)) items).toS) (by rw [sz]; simp only [List.mem_cons, List.not_mem_nil, or_false, not_or]; exact ⟨Nat.ne_of_lt (Nat.lt_succ_self _), Nat.ne_of_gt lt⟩) hv hb
        ⟨⟨_, Heap.get?_push_size _ rfl, rfl, rfl⟩, tup1.push _⟩ rfl rfl rfl (Heap.get?_push_of_some _ here) fun g tk inS kept => ?_
      refine wpAny_pure ?_
      show wpAny _ _ (ret Value.none) _ _ _
      refine wpAny_pure ⟨rfl, g, tk, rfl, inS, fun c o hc e => kept c o (by rw [sz]; simp only [List.mem_cons, List.not_mem_nil, or_false, not_or]; exact ⟨Nat.ne_of_lt hc, Nat.ne_of_lt (Nat.lt_succ_of_lt hc)⟩) ?_⟩
      exact Heap.get?_push_of_some _ (Heap.get?_push_of_some _ e)
    · match r2, hr2 with
      | .error _, hr2 => exact hr2
      | .ok .next, hr2 => exact hr2.elim
      | .ok .brk, hr2 => exact hr2.elim
      | .ok .cont, hr2 => exact hr2.elim
      | .ok (.ret u), hr2 =>
        obtain ⟨e1, g, tk, e2, inS, kept⟩ := hr2
        subst e1 e2
        repeat (any_goals (first | assumption | wp_step))
        exact fin g tk inS kept
end
end Mi

/-! # Does a tree of the small language stand for a piece of the text; the rules, one a construct -/
namespace Mi
open PySem L2
/-- where a piece stands: names by slot, the scope that runs, the names that may be stored though they are cells -/
structure SC where
  N : List Str
  sc : Scope
  fn : Str → Bool
  /-- the def whose lambdas may be made here -/
  lm : Option Str
  /-- the first name holds a lambda -/
  th : Bool := false
  /-- a def's own rows -/
  tp : Bool := false
/-- the table: names that the module leaves to the built-ins, functions, constants -/
structure Tab where
  frees : List Str
  fname : Nat → Option Str
  fdef : Nat → Option FDef
  keep : Nat → Bool
  glos : List (Str × D)
  kws : Nat → List (List Str × List Nat) := fun _ => []
  /-- fields of classes that are not told of the class -/
  flds : List (Str × Str) := []
  /-- classes that are called, by their __init__ -/
  mkr : Nat → Option Str := fun _ => none
  /-- methods -/
  mth : Nat → Option (Str × Str) := fun _ => none
  /-- properties -/
  prp : Nat → Option (Str × Str) := fun _ => none
  /-- functions that are handed a lambda -/
  thk : Nat → Option Str := fun _ => none
  /-- the lambdas: is it the text, what it captures -/
  lamOk : Nat → Arguments → Expr → Scope → Bool := fun _ _ _ _ => false
  lamC : Nat → List Str := fun _ => []
  /-- the error classes -/
  errs : List String := []
def memS (x : Str) (l : List Str) : Bool := l.any fun y => decide (x = y)
theorem memS_mem {x : Str} {l : List Str} (h : memS x l = true) : x ∈ l := by
  unfold memS at h
  rw [List.any_eq_true] at h
  obtain ⟨y, h1, h2⟩ := h
  rw [of_decide_eq_true h2]
  exact h1
def isKind (sc : Scope) (x : Str) (k : NameKind) : Bool := decide (sc.names.lookup x = some k)
def visB (sc : Scope) (x : Str) : Bool := isKind sc x .local || isKind sc x .cell || isKind sc x .free
theorem visB_ok {sc : Scope} {x : Str} (h : visB sc x = true) : Vis sc x := by
  unfold visB isKind at h
  simp only [Bool.or_eq_true, decide_eq_true_eq] at h
  rcases h with (h | h) | h
  · exact .inl h
  · exact .inr (.inl h)
  · exact .inr (.inr h)
def plainName (x : Str) : Bool := !(x == ("__debug__" : Str)) && !(x == ("__classdict__" : Str)) && !(x == ("__name__" : Str))
def notStar : Expr → Bool
  | .Starred _ _ => false
  | _ => true
theorem star_cons {e : Expr} {es : List Expr} {env : PySem.Env} (h : notStar e = true) : starEach (e :: es) env = (false, PySem.eval e env) :: starEach es env := by
  cases e <;> first | rfl | cases h
def noStars (es : List Expr) : Bool := es.all notStar
theorem noStars_back {es : List Expr} {env : PySem.Env} {pos : Pos} (h : noStars es = true) : (backTo pos (starEach es env)).any (·.1) = false := by
  induction es with
  | nil => rfl
  | cons e es ih =>
    obtain ⟨h1, h2⟩ := Bool.and_eq_true_iff.mp (show (notStar e && noStars es) = true from h)
    rw [star_cons h1]
    have := ih h2
    unfold backTo at this ⊢
    simpa using this
def notComp : Expr → Bool
  | .ListComp _ _ _ _ => false
  | .SetComp _ _ _ _ => false
  | .DictComp _ _ _ _ _ => false
  | _ => true
theorem swaps_none {e : Expr} {t : Option Expr} {l : Nat} {env : PySem.Env} (h : notComp e = true) : swapsWith e t l env = pure false := by
  cases e <;> first | rfl | cases h
def notSet : Expr → Bool
  | .Set _ _ _ => false
  | _ => true
theorem folded_none {e : Expr} {env : PySem.Env} {x : Value} (h : notSet e = true) : foldedSetIterable e env x = pure x := by
  cases e <;> first | rfl | cases h
/-- an expression whose test is its value's truth -/
def plainTest : Expr → Bool
  | .UnaryOp _ _ _ => false
  | .BoolOp _ _ _ => false
  | .IfExp _ _ _ _ => false
  | .Compare _ _ _ _ => false
  | _ => true
theorem plain_true {e : Expr} {env : PySem.Env} {whole : Sem Value} (h : plainTest e = true) : PySem.isTrue e env whole = (do let v ← whole; standAt e.pos; holding [v] (truthy v)) := by
  cases e <;> first | rfl | cases h
def mtName : Mt → Str
  | .append => "append" | .extend => "extend" | .pop => "pop" | .popAt => "pop" | .insert => "insert" | .index => "index"
  | .join => "join" | .split => "split" | .words => "split"
def notCall0 : Expr → Bool
  | .Call _ [] [] _ => false
  | _ => true
theorem base_plain {e : Expr} {a : Str} {env : PySem.Env} {w : Sem Value} (h : notCall0 e = true) : attributeBase e a env w = w := by
  cases e <;> first | rfl | skip
  rename_i f args kws pos
  cases args <;> cases kws <;> first | (cases h; done) | skip
  all_goals cases f <;> rfl
def notSlice : Expr → Bool
  | .Slice _ _ _ _ => false
  | _ => true
def blk (C : SC) (scope : Scope) : SC := ⟨C.N, relS scope C.sc, fun x => scope.names.lookup x == some .cell, C.lm, C.th, false⟩
/-- a lambda's own scope: its parameter alone -/
def lamB (scope : Scope) (z : Str) : Bool := decide (scope.kind = .function) && !scope.isCoroutine && !scope.isGenerator && (scope.names.all fun y => decide (y.2 = .local)) && decide (scope.names.lookup z = some .local) && !(z == ("__debug__" : Str))
def oneArg (ps : Arguments) (z : Str) : Bool := match ps with
  | ⟨[], [⟨y, none, _⟩], none, [], [], none, []⟩ => decide (y = z)
  | _ => false
/-- key=lambda z: z[i] -/
def keyLamB (i : Nat) (ks : List Keyword) : Bool := match ks with
  | [⟨some kw, .Lambda ps (.Subscript (.Name z _) (.Constant (.int j) _ _) _) scope _, _⟩] => decide (kw = ("key" : Str)) && oneArg ps z && decide (j = (i : Int)) && decide (i < 1000) && lamB scope z
  | _ => false
def opIs : Op → Operator → Bool
  | .add, .Add => true | .sub, .Sub => true | .mul, .Mult => true | .fdv, .FloorDiv => true | .mod, .Mod => true | .pow, .Pow => true
  | _, _ => false
def cmIs : Cm → CmpOp → Bool
  | .eq, .Eq => true | .ne, .NotEq => true | .lt, .Lt => true | .le, .LtE => true | .gt, .Gt => true | .ge, .GtE => true | .isN, .Is => true | .notN, .IsNot => true | .inn, .In => true | .nin, .NotIn => true
  | _, _ => false
def conIs : D → Const → Bool
  | .non, .none => true
  | .bl a, .bool b => decide (a = b)
  | .int a, .int b => decide (a = b)
  | .str a, .str b => decide (a = b)
  | _, _ => false
/-- a name that is left to the built-ins -/
def bltB (T : Tab) (C : SC) (x y : Str) : Bool := decide (x = y) && isKind C.sc x .globalImplicit && memS x T.frees
def tyName : Ty → Str
  | .int => "int" | .bool => "bool" | .str => "str" | .tuple => "tuple" | .list => "list"
def tyStr : Ty → String
  | .int => "int" | .bool => "bool" | .str => "str" | .tuple => "tuple" | .list => "list"
def b1Name : B1 → Str
  | .int => "int" | .abs => "abs" | .len => "len" | .repr => "repr" | .str => "str" | .isi _ => "isinstance"
def b2Name : B2 → Str
  | .min => "min" | .max => "max"
def bqName : Bq → Str
  | .all => "all" | .any => "any" | .sum => "sum" | .tuple => "tuple" | .list => "list" | .max => "max" | .min => "min" | .sorted => "sorted"
def nmIs (C : SC) (i : Nat) (x : Str) : Bool := decide (C.N[i]? = some x ∧ (C.th = true → i ≠ 0)) && (isKind C.sc x .local || (isKind C.sc x .cell && C.fn x))
theorem nmIs_0 {C : SC} {i : Nat} {x : Str} (h : nmIs C i x = true) : C.th = true → i ≠ 0 := by
  unfold nmIs at h
  rw [Bool.and_eq_true] at h
  exact (of_decide_eq_true h.1).2
def mtNms (C : SC) : List Nat → List Expr → Bool
  | [], [] => true
  | i :: is, .Name x _ :: es => nmIs C i x && mtNms C is es
  | _, _ => false
theorem mtNms_0 {C : SC} : ∀ {is : List Nat} {es : List Expr}, mtNms C is es = true → C.th = true → ∀ i ∈ is, i ≠ 0
  | [], _, _, _, i, hi => by cases hi
  | _ :: _, [], h, _, _, _ => by unfold mtNms at h; cases h
  | j :: is, e :: es, h, t, i, hi => by
    cases e <;> first | (unfold mtNms at h; cases h; done) | skip
    unfold mtNms at h
    rw [Bool.and_eq_true] at h
    rcases List.mem_cons.mp hi with rfl | hi
    · exact nmIs_0 h.1 t
    · exact mtNms_0 h.2 t i hi
def mtT1s (C : SC) : List T1 → List Expr → Bool
  | [], [] => true
  | .a i :: ts, .Name x _ :: es => nmIs C i x && mtT1s C ts es
  | .b is :: ts, .Tuple ns _ _ :: es => mtNms C is ns && mtT1s C ts es
  | _, _ => false
def mtTg (C : SC) : Tg → Expr → Bool
  | .tn ts, .Tuple es _ _ => mtT1s C ts es
  | .nm i, .Name x _ => nmIs C i x
  | .tp is, .Tuple es _ _ => mtNms C is es
  | _, _ => false
def tgIn0 (own : List Nat) : Tg → Bool
  | .tn ts => ts.all fun t => match t with
    | .a i => own.contains i
    | .b is => is.all fun i => own.contains i
  | .nm i => own.contains i
  | .tp is => is.all fun i => own.contains i
def tgIn (C : SC) (own : List Nat) (tg : Tg) : Bool := tgIn0 own tg && (!C.th || own.all fun i => decide (i ≠ 0))
theorem tgIn_1 {C : SC} {own : List Nat} {tg : Tg} (h : tgIn C own tg = true) : tgIn0 own tg = true := (Bool.and_eq_true_iff.mp h).1
theorem tgIn_2 {C : SC} {own : List Nat} {tg : Tg} (h : tgIn C own tg = true) (t : C.th = true) : ∀ i ∈ own, i ≠ 0 := fun i hi => by
  have z := (Bool.and_eq_true_iff.mp h).2
  rw [t] at z
  have z2 : ∀ j ∈ own, ¬ j = 0 := by simpa using z
  exact z2 i hi
/-- how the stores of a tuple of names go -/
def swNames (sc : Scope) (ts : List Expr) : List Str := ts.filterMap fun
  | .Name id pos => if sc.names.lookup id == some .local && pos.line == (ts.head?.map (·.pos.line)).getD 0 then some id else none
  | _ => none
def blkKind (sc : Scope) : ScopeKind := if sc.kind.isAnnotationScope then .function else sc.kind
def swp (sc : Scope) (ts vs : List Expr) : Option (Option (List Str)) :=
  if (!(ts.length == 2 || ts.length == 3) || vs.length != ts.length || blkKind sc != .function) = true then some none
  else if (vs.any fun | .Starred .. => true | _ => false) = true then some none
  else if ((swNames sc ts).length != ts.length || (swNames sc ts).eraseDups.length != (swNames sc ts).length) = true then some none
  else if vs.all (foldedForSure 8) = true then some none
  else if vs.all (constantsAlone 8) = true then none
  else some (some (swNames sc ts))
theorem swp_ok {sc : Scope} {ts vs : List Expr} {r : Option (List Str)} (h : swp sc ts vs = some r) {env : PySem.Env} (he : env.scope = sc) {k k2 : Nat} {p p2 : Pos} : swappedStores [.Tuple ts k p] (.Tuple vs k2 p2) env = pure r := by
  subst he
  unfold swp at h
  unfold swappedStores
  have hb : env.blockKind = blkKind env.scope := rfl
  simp only [hb, Env.kindOf]
  split at h
  · rename_i c; cases h; exact if_pos c
  rename_i c1
  refine (if_neg c1).trans ?_
  split at h
  · rename_i c; cases h; exact if_pos c
  rename_i c2
  refine (if_neg c2).trans ?_
  split at h
  · rename_i c; cases h; exact if_pos c
  rename_i c3
  refine (if_neg c3).trans ?_
  split at h
  · rename_i c; cases h; exact if_pos c
  rename_i c4
  refine (if_neg c4).trans ?_
  split at h
  · cases h
  rename_i c5
  cases h
  exact if_neg c5
/-- how a piece is read: as a value, as a test, as what a loop goes along -/
inductive Md where | v | t | i | it
  deriving DecidableEq
def Md.isI : Md → Bool
  | .i | .it => true
  | _ => false
/-- how what a loop goes along is read, by the target -/
def tgM : Expr → Md
  | .Tuple _ _ _ => .it
  | _ => .i
theorem tgM_isI (e : Expr) : (tgM e).isI = true := by cases e <;> rfl
/-- the name of an error class -/
def isxB (T : Tab) (C : SC) (z c : Str) : Bool := decide (z = c) && T.errs.any (fun y => decide (Str.ofString y = c)) && isKind C.sc z .globalImplicit && plainName z
/-- a lambda's scope: nothing of its own; what it captures -/
def lamScB (scope : Scope) (caps : List Str) : Bool :=
  decide (scope.kind = .function) && (!scope.isCoroutine && (!scope.isGenerator && (scope.names.all (fun y => !decide (y.2 = .local) && !decide (y.2 = .cell)) && (caps.all (fun x => decide (scope.names.lookup x = some .free)) && decide caps.Nodup))))
structure LamSc (scope : Scope) (caps : List Str) : Prop where
  kind : scope.kind = .function
  co : scope.isCoroutine = false
  gen : scope.isGenerator = false
  own : ∀ y ∈ scope.names, y.2 ≠ .local ∧ y.2 ≠ .cell
  fr : ∀ x ∈ caps, scope.names.lookup x = some .free
  nd : caps.Nodup
theorem lamScB_ok {scope : Scope} {caps : List Str} (h : lamScB scope caps = true) : LamSc scope caps := by
  unfold lamScB at h
  simp only [Bool.and_eq_true, Bool.not_eq_true', decide_eq_true_eq, List.all_eq_true, decide_eq_false_iff_not] at h
  obtain ⟨h1, h2, h3, h4, h5, h6⟩ := h
  exact ⟨h1, h2, h3, h4, h5, h6⟩
def noPars (ps : Arguments) : Bool := match ps with
  | ⟨[], [], none, [], [], none, []⟩ => true
  | _ => false
theorem noPars_eq {ps : Arguments} (h : noPars ps = true) : ps = ⟨[], [], none, [], [], none, []⟩ := by
  unfold noPars at h
  split at h <;> first | rfl | cases h
/-- the first parameter, a lambda -/
def thB (C : SC) (i : Nat) (x : Str) : Bool := C.th && C.tp && decide (i = 0) && decide (C.N[0]? = some x) && visB C.sc x && plainName x
/-- these slots bear these names; none holds a lambda -/
def capB (C : SC) : List Nat → List Str → Bool
  | [], [] => true
  | i :: is, x :: xs => decide (C.N[i]? = some x) && visB C.sc x && (!C.th || decide (i ≠ 0)) && capB C is xs
  | _, _ => false
def isYes : E → Bool
  | .con (.bl true) => true
  | _ => false
mutual
/-- does it match -/
def mtE (T : Tab) : Md → SC → E → Expr → Bool
  | m, C, .var i, x => (match x with
    | .Name x _ => decide (C.N[i]? = some x) && visB C.sc x && plainName x && (!C.th || decide (i ≠ 0))
    | _ => false)
  | m, _, .con d, x => (match x with
    | .Constant c _ _ => conIs d c
    | _ => false)
  | m, C, .glo d, x => (match x with
    | .Name x _ => isKind C.sc x .globalImplicit && plainName x && T.glos.any (fun p => decide (p.1 = x) && p.2.same d)
    | _ => false)
  | m, C, .bin op a b, x => (match x with
    | .BinOp l o r _ => opIs op o && mtE T .v C a l && mtE T .v C b r
    | _ => false)
  | m, C, .neg a, x => (match x with
    | .UnaryOp .USub l _ => decide (m ≠ .t) && mtE T .v C a l
    | _ => false)
  | m, C, .not a, x => (match x with
    | .UnaryOp .Not l _ => !m.isI && mtE T m C a l
    | _ => false)
  | m, C, .and es, x => (match x with
    | .BoolOp .And ls _ => !m.isI && mtB T m C es ls
    | _ => false)
  | m, C, .or es, x => (match x with
    | .BoolOp .Or ls _ => !m.isI && mtB T m C es ls
    | _ => false)
  | m, C, .cmp op a b, x => (match x with
    | .Compare l [o] [r] _ => cmIs op o && mtE T .v C a l && mtE T .v C b r && notSet r
    | _ => false)
  | m, C, .chn o1 o2 a b c, x => (match x with
    | .Compare l [p1, p2] [q, r] _ => cmIs o1 p1 && cmIs o2 p2 && mtE T .v C a l && mtE T .v C b q && mtE T .v C c r && notSet r
    | _ => false)
  | m, C, .ite c a b, x => (match x with
    | .IfExp q l r _ => decide (m ≠ .t) && mtE T .t C c q && mtE T .v C a l && mtE T .v C b r
    | _ => false)
  | m, C, .tup es, x => (match x with
    | .Tuple ls _ _ => mtEs T C es ls
    | _ => false)
  | m, C, .lst es, x => (match x with
    | .List ls _ => mtEs T C es ls
    | _ => false)
  | m, C, .tupx fs es, x => (match x with
    | .Tuple ls _ _ => mtXs T C fs es ls
    | _ => false)
  | m, C, .lstx fs es, x => (match x with
    | .List ls _ => mtXs T C fs es ls
    | _ => false)
  | m, C, .fn f es, x => (match x with
    | .Call (.Name x _) ls [] _ => decide (T.fname f = some x) && isKind C.sc x .globalImplicit && plainName x && mtEs T C es ls
    | _ => false)
  | m, C, .fnk f es ns p, x => (match x with
    | .Call (.Name x _) [] (kw :: kws) _ => decide (T.fname f = some x) && isKind C.sc x .globalImplicit && plainName x && decide ((ns, p) ∈ T.kws f) && mtKs T C es ns (kw :: kws)
    | _ => false)
  | m, C, .m f a es, x => (match x with
    | .Call (.Attribute o name apos) ls [] pos => decide (name = mtName f) && (apos.endLine == pos.line) && notCall0 o && decide (ls.length < 29) && mtE T .v C a o && mtEs T C es ls
    | _ => false)
  | m, C, .b1 f a, x => (match x with
    | .Call (.Name x _) (l :: ls) [] _ => bltB T C x (b1Name f) && mtE T .v C a l && notStar l && (match f, ls with
      | .isi y, [.Name z _] => bltB T C z (tyName y)
      | .isi _, _ => false
      | _, [] => true
      | _, _ => false)
    | _ => false)
  | m, C, .b2 f a b, x => (match x with
    | .Call (.Name x _) [l, r] [] _ => bltB T C x (b2Name f) && mtE T .v C a l && mtE T .v C b r && notStar l && notStar r
    | _ => false)
  | m, C, .bq f a, x => (match x with
    | .Call (.Name x _) [l] [] _ => bltB T C x (bqName f) && mtE T .v C a l && notStar l
    | _ => false)
  | m, C, .rng es, x => (match x with
    | .Call (.Name x _) ls [] _ => m.isI && decide (ls.length = 1 ∨ ls.length = 2) && bltB T C x "range" && mtEs T C es ls
    | _ => false)
  | m, C, .zip a b, x => (match x with
    | .Call (.Name x _) [l, r] [] _ => decide (m = .it) && bltB T C x "zip" && mtE T .v C a l && mtE T .v C b r && notStar l && notStar r
    | _ => false)
  | m, C, .enu a, x => (match x with
    | .Call (.Name x _) [l] [] _ => decide (m = .it) && bltB T C x "enumerate" && mtE T .v C a l && notStar l
    | _ => false)
  | m, C, .lrg es, x => (match x with
    | .Call (.Name x _) [.Call (.Name y _) ls [] _] [] _ => decide (ls.length = 1 ∨ ls.length = 2) && bltB T C x "list" && bltB T C y "range" && mtEs T C es ls
    | _ => false)
  | m, C, .idx a b, x => (match x with
    | .Subscript l r _ => mtE T .v C a l && mtE T .v C b r && notSlice r
    | _ => false)
  | m, C, .slc a lo hi, x => (match x with
    | .Subscript l (.Slice p q none _) _ => mtE T .v C a l && (match p with
      | none => isNonE lo
      | some p => !isNonE lo && mtE T .v C lo p) && (match q with
      | none => isNonE hi
      | some q => !isNonE hi && mtE T .v C hi q)
    | _ => false)
  | m, C, .rev a, x => (match x with
    | .Subscript l (.Slice none none (some (.UnaryOp .USub (.Constant (.int 1) _ _) _)) _) _ => mtE T .v C a l
    | _ => false)
  | m, C, .lc elt tg it own, x => (match x with
    | .ListComp elt' [⟨tg', it', [], 0⟩] scope _ => blkC C.N C.sc scope (own.map fun i => (C.N.getD i "", i)) && mtE T (tgM tg') C it it' && notSet it' && mtTg (blk C scope) tg tg' && tgIn C own tg && mtE T .v (blk C scope) elt elt'
    | _ => false)
  | m, C, .lcf elt c tg it own, x => (match x with
    | .ListComp elt' [⟨tg', it', [c'], 0⟩] scope _ => blkC C.N C.sc scope (own.map fun i => (C.N.getD i "", i)) && mtE T (tgM tg') C it it' && notSet it' && mtTg (blk C scope) tg tg' && tgIn C own tg && mtE T .t (blk C scope) c c' && mtE T .v (blk C scope) elt elt'
    | _ => false)
  | m, C, .dnw, x => (match x with
    | .Dict [] [] _ => true
    | _ => false)
  | m, C, .dct a, x => (match x with
    | .Call (.Name x _) [l] [] _ => bltB T C x "dict" && mtE T .v C a l && notStar l
    | _ => false)
  | m, C, .dg2 a b c, x => (match x with
    | .Call (.Attribute o name apos) [l, r] [] pos => decide (name = "get") && (apos.endLine == pos.line) && notCall0 o && mtE T .v C a o && mtE T .v C b l && mtE T .v C c r && notStar l && notStar r
    | _ => false)
  | m, C, .dsd a b c, x => (match x with
    | .Call (.Attribute o name apos) [l, r] [] pos => decide (name = "setdefault") && (apos.endLine == pos.line) && notCall0 o && mtE T .v C a o && mtE T .v C b l && mtE T .v C c r && notStar l && notStar r
    | _ => false)
  | m, C, .fld a c f, x => (match x with
    | .Attribute o n _ => decide (n = f) && decide ((c, f) ∈ T.flds) && notCall0 o && mtE T .v C a o
    | _ => false)
  | m, C, .mk f es, x => (match x with
    | .Call (.Name x _) (l :: ls) [] _ => decide (T.mkr f = some x) && isKind C.sc x .globalImplicit && plainName x && mtEs T C es (l :: ls)
    | _ => false)
  | m, C, .mt f c n a es, x => (match x with
    | .Call (.Attribute o name apos) (l :: ls) [] pos => decide (name = n) && decide (T.mth f = some (c, n)) && notCall0 o && mtE T .v C a o && mtEs T C es (l :: ls) && (apos.endLine == pos.line) && decide ((l :: ls).length < 29)
    | _ => false)
  | m, C, .dnc f c neg a b, x => (match x with
    | .Compare l [o] [r] _ => (match neg, o with
      | true, .NotIn => true
      | false, .In => true
      | _, _ => false) && decide (T.mth f = some (c, ("__contains__" : Str))) && mtE T .v C a l && mtE T .v C b r && notSet r
    | _ => false)
  | m, C, .itm k a, x => (match x with
    | .Call (.Attribute o name apos) [] [] pos => notCall0 o && (apos.endLine == pos.line) && (match k with
      | .items => decide (m = .it) && decide (name = "items")
      | .keys => m.isI && decide (name = "keys")
      | .vals => m.isI && decide (name = "values")) && mtE T .v C a o
    | _ => false)
  | m, C, .srk a i, x => (match x with
    | .Call (.Name x _) [l] ks _ => bltB T C x "sorted" && C.lm.isSome && keyLamB i ks && mtE T .v C a l && notStar l
    | _ => false)
  | m, C, .lset a, x => (match x with
    | .Call (.Name x _) [.Call (.Name y _) [l] [] _] [] _ => bltB T C x "len" && bltB T C y "set" && mtE T .v C a l && notStar l
    | _ => false)
  | m, C, .dc kx vx c tg it own, x => (match x with
    | .DictComp kx' vx' [⟨tg', it', ifs, 0⟩] scope _ => blkC C.N C.sc scope (own.map fun i => (C.N.getD i "", i)) && mtE T (tgM tg') C it it' && notSet it' && mtTg (blk C scope) tg tg' && tgIn C own tg && (match ifs with
      | [] => isYes c
      | [c'] => mtE T .t (blk C scope) c c'
      | _ => false) && mtE T .v (blk C scope) kx kx' && mtE T .v (blk C scope) vx vx'
    | _ => false)
  | m, C, .irg a lo hi, x => (match x with
    | .Compare l [.In] [.Call (.Name y _) [p, q] [] _] _ => bltB T C y "range" && mtE T .v C a l && mtE T .v C lo p && mtE T .v C hi q && notStar p && notStar q
    | _ => false)
  | m, C, .rep es b, x => (match x with
    | .BinOp (.List ls _) .Mult r _ => mtEs T C es ls && mtE T .v C b r
    | _ => false)
  | m, C, .ise a c, x => (match x with
    | .Call (.Name x _) [l, .Name z _] [] _ => bltB T C x "isinstance" && mtE T .v C a l && notStar l && isxB T C z c
    | _ => false)
  | m, C, .exv a, x => (match x with
    | .Attribute o n _ => decide (n = ("value" : Str)) && notCall0 o && mtE T .v C a o
    | _ => false)
  | m, C, .cll i, x => (match x with
    | .Call (.Name x _) [] [] _ => thB C i x
    | _ => false)
  | m, C, .fwd f i es, x => (match x with
    | .Call (.Name x _) (.Name a _ :: ls) [] _ => decide (T.thk f = some x) && isKind C.sc x .globalImplicit && plainName x && thB C i a && mtEs T C es ls
    | _ => false)
  | m, C, .fnl f n cs es, x => (match x with
    | .Call (.Name x _) (.Lambda ps b sc _ :: ls) [] _ => decide (T.thk f = some x) && isKind C.sc x .globalImplicit && plainName x && (C.lm.isSome && T.lamOk n ps b sc && LamX.lamSB C.sc sc && noPars ps && lamScB sc (T.lamC n) && capB C cs (T.lamC n)) && mtEs T C es ls
    | _ => false)
  | m, C, .prp f c n a, x => (match x with
    | .Attribute o m _ => decide (m = n) && decide (T.prp f = some (c, n)) && notCall0 o && mtE T .v C a o
    | _ => false)
  | _, _, .dsp _, _ => false
  | _, _, .dead, _ => true
/-- the parts of an and | or -/
def mtB (T : Tab) : Md → SC → Es → List Expr → Bool
  | m, C, .cons e .nil, [l] => mtE T m C e l
  | m, C, .cons e (.cons e2 r), l :: l2 :: ls => mtE T m C e l && mtB T m C (.cons e2 r) (l2 :: ls)
  | _, _, _, _ => false
/-- keywords with their values -/
def mtKs (T : Tab) : SC → Es → List Str → List Keyword → Bool
  | _, .nil, [], [] => true
  | C, .cons e r, n :: ns, ⟨some m, l, _⟩ :: ls => decide (n = m) && mtE T .v C e l && mtKs T C r ns ls
  | _, _, _, _ => false
/-- a display's items -/
def mtXs (T : Tab) : SC → List Nat → Es → List Expr → Bool
  | _, _, .nil, [] => true
  | C, fs, .cons e r, l :: ls => (match fs.headD 0 with
      | 0 => mtE T .v C e l && notStar l
      | 1 => (match l with
        | .Starred l' _ => mtE T .v C e l'
        | _ => false)
      | _ => (match l with
        | .Starred (.Call (.Attribute ob name apos) [] [] pos) _ => decide (name = "values") && notCall0 ob && (apos.endLine == pos.line) && mtE T .v C e ob
        | _ => false)) && mtXs T C fs.tail r ls
  | _, _, _, _ => false
def mtEs (T : Tab) : SC → Es → List Expr → Bool
  | _, .nil, [] => true
  | C, .cons e r, l :: ls => mtE T .v C e l && notStar l && mtEs T C r ls
  | _, _, _ => false
end
/-! suites of except: a language of a few words -/
mutual
def mtHE (T : Tab) : SC → E → Expr → Bool
  | C, .var i, x => (match x with
    | .Name x _ => decide (C.N[i]? = some x) && visB C.sc x && plainName x && (!C.th || decide (i ≠ 0))
    | _ => false)
  | _, .con d, x => (match x with
    | .Constant c _ _ => conIs d c
    | _ => false)
  | C, .tup es, x => (match x with
    | .Tuple ls _ _ => mtHEs T C es ls
    | _ => false)
  | C, .ite c a b, x => (match x with
    | .IfExp q l r _ => plainTest q && mtHE T C c q && mtHE T C a l && mtHE T C b r
    | _ => false)
  | C, .ise a c, x => (match x with
    | .Call (.Name x _) [l, .Name z _] [] _ => bltB T C x "isinstance" && mtHE T C a l && notStar l && isxB T C z c
    | _ => false)
  | C, .exv a, x => (match x with
    | .Attribute o n _ => decide (n = ("value" : Str)) && notCall0 o && mtHE T C a o
    | _ => false)
  | _, _, _ => false
def mtHEs (T : Tab) : SC → Es → List Expr → Bool
  | _, .nil, [] => true
  | C, .cons e r, l :: ls => mtHE T C e l && notStar l && mtHEs T C r ls
  | _, _, _ => false
end
def mtHS (T : Tab) : SC → S → Stmt → Bool
  | C, .ret e, x => (match x with
    | .Return (some e') _ => mtHE T C e e'
    | _ => false)
  | C, .asg tg e, x => (match tg, x with
    | .nm i, .Assign [.Name y py] e' _ => mtHE T C e e' && nmIs C i y && notComp e'
    | _, _ => false)
  | _, _, _ => false
def mtHSs (T : Tab) : SC → Ss → List Stmt → Bool
  | _, .nil, [] => true
  | C, .cons st r, l :: ls => mtHS T C st l && mtHSs T C r ls
  | _, _, _ => false
mutual
def mtS (T : Tab) : SC → S → Stmt → Bool
  | C, .asg tg e, x => (match x with
    | .Assign [tg'] e' _ => mtE T .v C e e' && mtTg C tg tg' && (match tg, tg', e' with
      | .nm i, .Name y py, .ListComp _ _ scope lp => isKind C.sc y .cell || decide (C.sc.kind = .function) && decide (C.N[i]? = some y) && isKind C.sc y .local && (py.line == lp.line) && !(scope.names.any fun (n, k) => n == y && (k == .local || k == .cell))
      | .nm i, .Name y py, .DictComp _ _ _ scope lp => isKind C.sc y .cell || decide (C.sc.kind = .function) && decide (C.N[i]? = some y) && isKind C.sc y .local && (py.line == lp.line) && !(scope.names.any fun (n, k) => n == y && (k == .local || k == .cell))
      | .tp _, _, .Tuple _ _ _ => false
      | .tn _, _, .Tuple _ _ _ => false
      | _, _, _ => notComp e')
    | _ => false)
  | C, .sto a i e, x => (match x with
    | .Assign [.Subscript a' i' _] e' _ => mtE T .v C e e' && mtE T .v C a a' && mtE T .v C i i' && notComp e' && notSlice i'
    | _ => false)
  | C, .par is es, x => (match x with
    | .Assign [.Tuple ts _ _] (.Tuple vs _ _) _ => mtEs T C es vs && mtNms C is ts && decide (is.length ≤ 100) && (match is, ts, vs with
      | [i, j], [.Name x _, .Name y _], [_, _] => decide (swp C.sc ts vs = some none) || (decide (swp C.sc ts vs = some (some [x, y])) && isKind C.sc x .local && isKind C.sc y .local && decide (i ≠ j))
      | [i, j, l], [.Name x _, .Name y _, .Name z _], [_, _, _] => decide (swp C.sc ts vs = some none) || (decide (swp C.sc ts vs = some (some [x, y, z])) && isKind C.sc x .local && isKind C.sc y .local && isKind C.sc z .local && decide (i ≠ j) && decide (i ≠ l) && decide (j ≠ l))
      | _, _, _ => decide (swp C.sc ts vs = some none))
    | _ => false)
  | C, .unl is e, x => (match x with
    | .Assign [.Tuple ts kk pp] (.ListComp elt gs scope lp) _ => mtE T .v C e (.ListComp elt gs scope lp) && mtTg C (.tp is) (.Tuple ts kk pp)
    | _ => false)
  | C, .aug i sub e, x => (match x with
    | .AugAssign (.Name x _) op e' _ => (match sub, op with
      | true, .Sub => true
      | false, .Add => true
      | _, _ => false) && nmIs C i x && mtE T .v C e e'
    | _ => false)
  | C, .expr e, x => (match x with
    | .Expr e' _ => mtE T .v C e e' && notComp e'
    | _ => false)
  | C, .ret e, x => (match x with
    | .Return (some e') _ => mtE T .v C e e'
    | _ => false)
  | _, .pass, x => (match x with
    | .Pass _ => true
    | _ => false)
  | _, .brk, x => (match x with
    | .Break _ => true
    | _ => false)
  | _, .cnt, x => (match x with
    | .Continue _ => true
    | _ => false)
  | C, .iff c a b, x => (match x with
    | .If c' a' b' _ => mtE T .t C c c' && mtSs T C a a' && mtSs T C b b'
    | _ => false)
  | C, .whl c b, x => (match x with
    | .While c' b' [] _ => mtE T .t C c c' && mtSs T C b b'
    | _ => false)
  | C, .fr tg it b, x => (match x with
    | .For tg' it' b' [] _ => mtE T (tgM tg') C it it' && notSet it' && mtTg C tg tg' && mtSs T C b b'
    | _ => false)
  | C, .rais c e, x => (match x with
    | .Raise (some (.Call (.Name x _) [l] [] _)) none _ => isxB T C x (Str.ofString c) && T.errs.any (fun y => decide (y = c)) && mtE T .v C e l && notStar l
    | _ => false)
  | C, .tri b i h, x => (match x with
    | .Try b' [.ExceptHandler (some (.Name x _)) (some n) (h0 :: hs) _] [] [] _ => C.tp && isxB T C x "QueueError" && nmIs C i n && isKind C.sc n .local && mtSs T C b b' && mtHSs T C h (h0 :: hs)
    | _ => false)
  | C, .sfd a c f e, x => (match x with
    | .Assign [.Attribute o n _] e' _ => decide (n = f) && decide ((c, f) ∈ T.flds) && mtE T .v C e e' && mtE T .v C a o && notComp e'
    | _ => false)
  | C, .pf2 c a1 f1 a2 f2 es, x => (match x with
    | .Assign [.Tuple [.Attribute o1 n1 _, .Attribute o2 n2 _] _ _] (.Tuple vs _ _) _ => decide (n1 = f1) && decide (n2 = f2) && decide ((c, f1) ∈ T.flds) && decide ((c, f2) ∈ T.flds) && mtEs T C es vs && mtE T .v C a1 o1 && mtE T .v C a2 o2
    | _ => false)
  | _, .dead, _ => true
def mtSs (T : Tab) : SC → Ss → List Stmt → Bool
  | _, .nil, [] => true
  | C, .cons st r, l :: ls => mtS T C st l && mtSs T C r ls
  | _, _, _ => false
end
/-! ### functions -/
/-- as FnOk of the hand layer, where the guards (what is being shown) are known to be none; errors may leave -/
structure FnG (P : Program) (w : World) (K : PySem.W.Frag) (mg : Str → Option Value) (base : Heap) (k : Nat) (f : Addr) (fd : PySem.FuncData) (ps : List Str) (sp : Sp) : Prop where
  len : ∀ vs H Q E, sp vs H Q E → vs.length = ps.length
  run : ∀ (A : Around) (outer : List PySem.Env) (s : Shared) (H : Hp) (args : Args) (us : List Value) (vs : List V) (Q : VK) (E : XK), A.guards = some [] → Room k A → Env0 P w K mg base A outer s H → BindsTo s fd args (ps.zip us) → Vals vs us → sp vs H Q E →
    codeAny (model P w) A (.call (.ref f) args) (CR (L2.CX P w) outer P w H s Q E) s
end Mi

/-! # Lambdas without parameters: handed on, called -/
namespace Mi
open PySem PySem.Spec PyProof.Rows L2
/-- a lambda's object at f stands in the heap, out of the reach of what is tracked; its cells hold vs -/
structure ClAt (ps : Arguments) (b : Expr) (sc : Scope) (caps : List Str) (vs : List V) (f c : Addr) (q : Str) (fs : List Addr) (H : Hp) (h : Heap) : Prop where
  ob : ∃ (pm ctv : Value) (cl : List (Str × Addr)), h.get? f = some (PySem.W.kla_obj "<lambda>" q ps b sc cl pm c ctv) ∧ (∀ x y a, cl.lookup x = some a → cl.lookup y = some a → x = y) ∧ (∀ y ∈ sc.names, y.2 = .free → ∃ a, cl.lookup y.1 = some a) ∧
    (∀ y a, cl.lookup y = some a → H a = none ∧ ∃ w, h.IsCell a w) ∧ (∀ (i : Nat) y v, caps[i]? = some y → vs[i]? = some v → ∃ a u, cl.lookup y = some a ∧ h.IsCell a (some u) ∧ RelV v u)
  fn : H f = none
  nf : f ∉ fs
  len : vs.length = caps.length
theorem isCell_any {fs ex : List Addr} {H H' : Hp} {h h' : Heap} (u : Un fs ex H H' h h') {a : Addr} {w : Option Value} (n : H a = none) (hx : a ∉ ex) (c : h.IsCell a w) : h'.IsCell a w := by
  obtain ⟨o, e1, e2⟩ := c
  obtain ⟨sl, q⟩ := u.any e1 n hx
  exact ⟨_, q, e2⟩
section
variable {ps : Arguments} {b : Expr} {sc : Scope} {caps : List Str} {vs : List V} {f c : Addr} {q : Str}
/-- later in the def that was entered there -/
theorem ClAt.later {X : Cx} {pins : List (Addr × Obj)} {σ : L2.St} {H : Hp} {s : Shared} (A : ClAt ps b sc caps vs f c q X.fs X.H_0 X.s_0.heap) (I : L2.Inv X pins σ H s) (hex : X.ex = []) : ClAt ps b sc caps vs f c q (frs X.stack) H s.heap := by
  obtain ⟨pm, ctv, cl, h1, h2, h3, h4, h5⟩ := A.ob
  have no : ∀ a : Addr, a ∉ X.ex := fun a z => by rw [hex] at z; cases z
  refine ⟨⟨pm, ctv, cl, I.base.keep f _ h1 A.fn A.nf (no f), h2, h3, fun y a e => ?_, fun i y v e1 e2 => ?_⟩, I.base.free f _ h1 A.fn (no f), fun hm => ?_, A.len⟩
  · obtain ⟨n, w, o, e1, e2⟩ := h4 y a e
    exact ⟨I.base.free a _ e1 n (no a), w, isCell_any I.base n (no a) ⟨o, e1, e2⟩⟩
  · obtain ⟨a, u, e3, e4, r⟩ := h5 i y v e1 e2
    exact ⟨a, u, e3, isCell_any I.base (h4 y a e3).1 (no a) e4, r⟩
  · rcases List.mem_cons.mp (I.stkSub f hm) with z | z
    · have l1 := Heap.lt_size h1
      have l2 := I.ok.above
      rw [z] at l1
      exact absurd (Nat.lt_of_lt_of_le l1 l2) (Nat.lt_irrefl _)
    · exact A.nf z
end
abbrev lamE (q : Str) (sc : Scope) (L f c : Addr) (cl : List (Str × Addr)) : PySem.Env := PySem.W.envX q sc L f (.ref c) cl
/-- where a lambda's body runs -/
def lamX (P : Program) (w : World) (K : PySem.W.Frag) (mg : Str → Option Value) (base : Heap) (caps : List Str) (A : Around) (outer : List PySem.Env) (s : Shared) (H : Hp) (E : XK) (sc : Scope) (f c : Addr) (q : Str) (cl : List (Str × Addr)) : Cx where
  prog := P
  w := w
  K := K
  mg := mg
  base := base
  A := A.deeper (lamE q sc s.heap.objs.size f c cl)
  N := caps
  s_0 := s
  H_0 := H
  env := lamE q sc s.heap.objs.size f c cl
  outer := outer
  stack := lamE q sc s.heap.objs.size f c cl :: outer
  ex := []
  fn := fun _ => false
  calm := true
  pn := []
  xe := fun e t => wpAny (model P w) (A.deeper (lamE q sc s.heap.objs.size f c cl)) (leaving (lamE q sc s.heap.objs.size f c cl) e) (fun _ t' => L2.CX P w outer H s E e t') (fun e' t' => L2.CX P w outer H s E e' t') t
/-- what a lambda of the table promises -/
structure LamG (P : Program) (w : World) (K : PySem.W.Frag) (mg : Str → Option Value) (base : Heap) (k : Nat) (ps : Arguments) (b : Expr) (sc : Scope) (caps : List Str) (sp : Sp) : Prop where
  run : ∀ (A : Around) (outer : List PySem.Env) (s : Shared) (H : Hp) (f c : Addr) (q : Str) (vs : List V) (Q : VK) (E : XK), A.guards = some [] → Room k A → Env0 P w K mg base A outer s H → ClAt ps b sc caps vs f c q (frs outer) H s.heap →
    H c = some (LamX.CodeO c q) → sp vs H Q E → codeAny (model P w) A (.call (.ref f) ⟨[], []⟩) (CR (L2.CX P w) outer P w H s Q E) s
theorem LamG.of_body {P : Program} {w : World} {K : PySem.W.Frag} {mg : Str → Option Value} {base : Heap} {k : Nat} {ps : Arguments} {b : Expr} {sc : Scope} {caps : List Str} {sp : Sp} (hps : noPars ps = true) (S : LamSc sc caps)
    (body : ∀ (A : Around) (outer : List PySem.Env) (s : Shared) (H : Hp) (E : XK) (f c : Addr) (q : Str) (cl : List (Str × Addr)) (vs : List V) (Q : VK), A.guards = some [] → Room k (A.deeper (lamE q sc s.heap.objs.size f c cl)) → sp vs H Q E → vs.length = caps.length →
      ∃ t : TE, PE (lamX P w K mg base caps A outer s H E sc f c q cl) b t ∧ t (vs.map some) H fun v G => Lk (Q v) G) : LamG P w K mg base (k + 1) ps b sc caps sp := by
  refine ⟨fun A outer s H f c q vs Q E gd room e0 C hc h => ?_⟩
  obtain ⟨pm, ctv, cl, h1, h2, h3, h4, h5⟩ := C.ob
  obtain ⟨⟨oc, vr, t, hoc, hdc, hvc⟩, _, _⟩ := e0.hok c _ hc
  have lim : s.heap.NoLimit := e0.mod.nolimit.keeps fun a o e => (e0.bs a o e).1
  refine PySem.W.kla_callFunE room.depth h1 rfl S.co S.gen rfl ⟨c, oc, vr, t, rfl, hoc, hdc, hvc⟩ ?_
  have hb : bindArgs (PySem.W.kla_fn "<lambda>" q ps b sc cl pm (.ref c) ctv) ⟨[], []⟩ = pure [] := by rw [noPars_eq hps]; rfl
  rw [hb]
  refine wpAny_pure (wpAny_newFunctionEnv (fun y hy => (S.own y hy).2) (fun y hy => absurd hy (by simp)) (fun h₁ hns hsb => ⟨lim.fresh _ hsb, ?_⟩) S.kind)
  have kp : ∀ a o, s.heap.get? a = some o → h₁.get? a = some o := fun a o e => hsb.extBut a o (Nat.ne_of_lt (Heap.lt_size e)) (Heap.get?_push_of_some _ e)
  show codeAny _ _ (.expr b (lamE q sc s.heap.objs.size f c cl)) _ _
  obtain ⟨tr, hp, hq⟩ := body A outer s H E f c q cl vs Q gd (room.deeper _) h C.len
  have J : L2.Inv (lamX P w K mg base caps A outer s H E sc f c q cl) [] (vs.map some) H { s with heap := h₁, toks := s.toks + ([] : List (Str × Value)).length } := by
    have noA : ∀ a : Addr, a ∉ (lamX P w K mg base caps A outer s H E sc f c q cl).ex := fun a z => absurd (show a ∈ ([] : List Addr) from z) (by simp)
    have cellK : ∀ {a : Addr} {v : Option Value}, s.heap.IsCell a v → h₁.IsCell a v := fun {a v} ⟨o, ho, hd⟩ => ⟨o, kp _ _ ho, hd⟩
    refine ⟨⟨e0.mod, S.kind, rfl, rfl, Nat.le_refl _, h2, fun y hy => ?_, fun y a z _ => ?_, fun _ => room.hd, Around.frames_deeper e0.frames, .inr ⟨rfl, rfl⟩, fun a z => absurd z (noA a), e0.bs, e0.bsz, fun a _ _ => noA a, fun a z => absurd z (noA a), e0.funs, e0.frf⟩,
      rfl, e0.bare, Un.kept kp, ⟨_, hns, fun i y v e1 e2 e3 => ?_⟩, fun y a e => ?_, e0.hok.fresh (Nat.le_refl _), fun y a e => (h4 y a e).1, fun p hp => absurd (show p ∈ ([] : List (Addr × Obj)) ++ [] from hp) (by simp), e0.hok.kept kp, by rw [List.length_map]; exact C.len⟩
    · rcases (show sc.names.lookup y = some .cell ∨ sc.names.lookup y = some .free from hy) with hy | hy
      · exact absurd rfl (S.own _ (PySem.mem_of_lookup hy)).2
      · exact h3 _ (PySem.mem_of_lookup hy) rfl
    · exact absurd (show false = true from z) Bool.false_ne_true
    · rw [List.getElem?_map, Option.map_eq_some_iff] at e2
      obtain ⟨v', e2, e4⟩ := e2
      cases e4
      obtain ⟨a, u, e5, e6, r⟩ := h5 i y v e1 e2
      refine ⟨u, r, .inr ⟨.inr (S.fr y (List.mem_of_getElem? e1)), a, e5, cellK e6⟩⟩
    · obtain ⟨_, v, e1⟩ := h4 y a e
      exact ⟨v, cellK e1⟩
  refine PySem.W.kla_codeExpr (wpAny_mono (hp.run [] _ _ H _ J hq) (fun v s' z => ?_) fun e s' z => z)
  obtain ⟨w', H0, J0, rv, z⟩ := z
  obtain ⟨H', J', z⟩ := z.run J0
  exact ⟨w', H', J'.os, J'.bare, J'.base, J'.hok, rv, z⟩
/-! ### a def that is handed a lambda -/
/-- the lambda t stands in the heap -/
def ClIn (T : Tab) (t : Th) (fs : List Addr) (H : Hp) (h : Heap) : Prop := ∃ ps b sc, T.lamOk t.n ps b sc = true ∧ ClAt ps b sc (T.lamC t.n) t.vs t.f t.c t.q fs H h
/-- what such a def promises: of its further arguments -/
structure FnT (T : Tab) (P : Program) (w : World) (K : PySem.W.Frag) (mg : Str → Option Value) (base : Heap) (k : Nat) (f : Addr) (fd : PySem.FuncData) (ps : List Str) (sp : Th → Sp) : Prop where
  len : ∀ t vs H Q E, sp t vs H Q E → vs.length + 1 = ps.length
  run : ∀ (A : Around) (outer : List PySem.Env) (s : Shared) (H : Hp) (args : Args) (t : Th) (us : List Value) (vs : List V) (Q : VK) (E : XK), A.guards = some [] → Room k A → Env0 P w K mg base A outer s H → ClIn T t (frs outer) H s.heap →
    BindsTo s fd args (ps.zip (.ref t.f :: us)) → Vals vs us → sp t vs H Q E → codeAny (model P w) A (.call (.ref f) args) (CR (L2.CX P w) outer P w H s Q E) s
end Mi

/-! # Operators by values -/
namespace Mi
open PySem L2
/-- an end that is a value, a new thing -/
def EndP (K : PySem.W.Frag) (φ : Fz) (μ : List Addr) (H : Hp) (p : P) (s : Sto) (Q : VK) : Prop := ∀ φ' μ' H' v, Le K φ μ H φ' μ' H' → RelS K φ' μ' H' s → relP K φ' μ' H' p v → Q v H'
section
variable {X : Cx} {K : PySem.W.Frag} {φ : Fz} {μ : List Addr} {H : Hp} {s : Sto} {Q : VK}
theorem EndP.val {d : D} {v : V} (h : EndP K φ μ H (.val d) s Q) (rs : RelS K φ μ H s) (rd : RelD K φ μ H d v) : Q v H := h φ μ H v Le.refl rs rd
theorem EndP.new {ds : List D} {vs : List V} (h : EndP K φ μ H (.new ds) s Q) (rs : RelS K φ μ H s) (rl : RelL K φ μ H ds vs) : ∀ p, H p = none → Q (.ref p) (upd H p (.lst vs)) := fun p hp =>
  h φ μ _ _ (Le.new hp rs.here) (rs.beside hp) ⟨p, vs, rfl, upd_same, fun b z => rs.here (b, p) z hp, fun z => rs.here_mu z hp, rl.up (Le.new hp rs.here)⟩
theorem EndP.tup {ds : List D} {vs : List V} (h : EndP K φ μ H (.val (.tup ds)) s Q) (rs : RelS K φ μ H s) (rl : RelL K φ μ H ds vs) : ∀ p, H p = none → Q (.ref p) (upd H p (.tup vs)) := fun p hp =>
  h φ μ _ _ (Le.new hp rs.here) (rs.beside hp) (mk_tup (SqT.of upd_same) (rl.up (Le.new hp rs.here)))
theorem powW : OpR X (binaryOp .Pow) (rI (fun i j => 0 ≤ j ∧ (Builtin.Int.intBits i : Int) * j ≤ 2 ^ 27) fun i j => .int (i ^ j.toNat)) := by
  intro pins s σ H x y v u Q I rx ry h
  obtain ⟨i, j, rfl, rfl, hc, q⟩ := h
  obtain ⟨t, rfl⟩ := rx
  obtain ⟨t', rfl⟩ := ry
  exact PyProof.Rows.pow_int hc.1 hc.2 ⟨.int _, H, I.tok _, ⟨_, rfl⟩, q⟩
/-- a list of the tree, in the concrete heap -/
theorem lst_at {pins : List (Addr × Obj)} {σ : St} {sh : Shared} {d : D} {v : V} {xs : List D} (I : Inv X pins σ H sh) (rs : RelS X.K φ μ H s) (rd : RelD X.K φ μ H d v) (h : lstOf d s = some xs) :
    ∃ a vs its n, v = .ref a ∧ SqL X.K H a vs ∧ RelL X.K φ μ H xs vs ∧ Vals vs its ∧ vs.length = its.length ∧ sh.heap.get? a = some { cls := .type "list", data := .seq its.toArray n } := by
  cases d <;> first | (simp [lstOf] at h; done) | skip
  · rename_i ys
    cases h
    obtain ⟨a, vs, e, h1, h2⟩ := relD_flst rd
    rcases h1 with ⟨_, g⟩ | ⟨ob, g⟩ | ⟨its, n, g1, g2, g3⟩
    · obtain ⟨z, its, n, r, hl, e2⟩ := I.lstM g
      exact ⟨a, vs, its, n, e, SqL.of g, h2, r, hl, e2⟩
    · obtain ⟨e1, z, its, n, r, e2⟩ := I.hok a _ g
      exact ⟨a, vs, its, n, e, .inl (.inr ⟨ob, g⟩), h2, r, r.length, e2⟩
    · exact ⟨a, vs, its.toList, n, e, .inr ⟨_, its, n, g1, rfl, rfl, rfl, g2, g3⟩, h2, g3, g3.length, by simpa using I.kIn a _ g1⟩
  · rename_i n
    obtain ⟨a, e, h1⟩ := relD_loc rd
    simp only [lstOf] at h
    cases z : s[n]? with
    | none => rw [z] at h; cases h
    | some c =>
      rw [z] at h
      cases c with
      | lst ys =>
        cases h
        obtain ⟨vs, e1, e2⟩ := rs.cell n _ a z h1
        obtain ⟨z, its, n, r, hl, e3⟩ := I.lstM e1
        exact ⟨a, vs, its, n, e, SqL.of e1, e2, r, hl, e3⟩
      | dk _ => cases h
      | lk _ => cases h
      | ins _ _ => cases h
/-- what an operator asks -/
def rBin (K : PySem.W.Frag) (op : Op) : R2 := fun x y H Q => ∃ φ μ s a b p, RelS K φ μ H s ∧ RelD K φ μ H a x ∧ RelD K φ μ H b y ∧ binR op a b s = some p ∧ EndP K φ μ H p s Q
def opO : Op → Operator
  | .add => .Add | .sub => .Sub | .mul => .Mult | .fdv => .FloorDiv | .mod => .Mod | .pow => .Pow
theorem opIs_eq {c : Op} {p : Operator} (h : opIs c p = true) : p = opO c := by
  cases c <;> cases p <;> first | rfl | cases h
theorem le_lineN {n : Nat} (h : n ≤ sizeMax) : n ≤ sizeLine := Nat.le_trans h (by decide)
theorem op_bin (op : Op) : OpR X (binaryOp (opO op)) (rBin X.K op) := by
  intro pins sh σ H x y v u Q I rx ry h
  obtain ⟨φ, μ, s, a, b, p, rs, ra, rb, e, q⟩ := h
  by_cases hop : op = .add
  · subst hop
    simp only [binR] at e
    unfold addR at e
    split at e
    · cases e
      rw [relD_int ra] at rx
      rw [relD_int rb] at ry
      exact op_add pins sh σ H _ _ v u Q I rx ry ⟨_, _, rfl, rfl, q.val rs mk_int⟩
    · split at e
      · rename_i c
        cases e
        rw [relD_str ra] at rx
        rw [relD_str rb] at ry
        exact op_add_str pins sh σ H _ _ v u Q I rx ry ⟨_, _, rfl, rfl, le_lineN c, q.val rs mk_str⟩
      · cases e
    · split at e
      · rename_i xs ys c
        cases e
        obtain ⟨a1, vs, rfl, h1, h2⟩ := relD_tup ra
        obtain ⟨a2, us, rfl, h3, h4⟩ := relD_tup rb
        refine op_catA pins sh σ H _ _ v u Q I rx ry ⟨a1, a2, vs, us, rfl, rfl, h1, h3, by rw [← h2.length, ← h4.length]; exact le_lineN c, fun z => ?_, fun _ z => ?_, fun _ _ => q.tup rs (h2.append h4)⟩
        · subst z
          have : xs = [] := List.eq_nil_of_length_eq_zero h2.length
          subst this
          exact q.val rs (mk_tup h3 h4)
        · subst z
          have : ys = [] := List.eq_nil_of_length_eq_zero h4.length
          subst this
          rw [List.append_nil] at q
          exact q.val rs (mk_tup h1 h2)
      · cases e
    · cases z1 : lstOf a s with
      | none => rw [z1] at e; cases e
      | some xs =>
        cases z2 : lstOf b s with
        | none => rw [z1, z2] at e; cases e
        | some ys =>
          rw [z1, z2] at e
          simp only at e
          split at e
          · rename_i c
            cases e
            obtain ⟨a1, vs, its, n, rfl, _, h1, h2, h3, h4⟩ := lst_at I rs ra z1
            obtain ⟨a2, us, its2, n2, rfl, _, g1, g2, g3, g4⟩ := lst_at I rs rb z2
            cases rx
            cases ry
            refine PySem.P.add_list h4 g4 ?_ (by rw [List.size_toArray, List.size_toArray, ← h3, ← g3, ← h1.length, ← g1.length]; exact le_lineN c)
            have ea : its.toArray ++ its2.toArray = (its ++ its2).toArray := by simp
            rw [ea]
            exact ⟨.ref _, _, I.lnew (t' := sh.toks) (h2.append g2) (by rw [List.length_append, ← h1.length, ← g1.length]; exact le_lineN c), rfl, q.new rs (h1.append g1) _ I.fresh⟩
          · cases e
  · have two : ∃ i j k, a = .int i ∧ b = .int j ∧ binI op i j = some k ∧ p = .val (.int k) := by
      cases op <;> first | exact absurd rfl hop | skip
      all_goals
        simp only [binR] at e
        split at e
        · obtain ⟨k, e1, e2⟩ := Option.map_eq_some_iff.mp e
          exact ⟨_, _, k, rfl, rfl, e1, e2.symm⟩
        · cases e
    obtain ⟨i, j, k, rfl, rfl, e1, rfl⟩ := two
    have hx := relD_int ra
    have hy := relD_int rb
    subst hx hy
    have qk := q.val rs mk_int
    cases op <;> first | exact absurd rfl hop | skip
    · simp only [binI, Option.some.injEq] at e1
      subst e1
      exact op_sub pins sh σ H _ _ v u Q I rx ry ⟨i, j, rfl, rfl, qk⟩
    · simp only [binI] at e1
      split at e1
      · rename_i c
        cases e1
        exact op_mulW pins sh σ H _ _ v u Q I rx ry ⟨i, j, rfl, rfl, by unfold bigOk at c; unfold CMulW; exact of_decide_eq_true c, qk⟩
      · cases e1
    · simp only [binI] at e1
      split at e1
      · rename_i c
        cases e1
        exact op_fdivW pins sh σ H _ _ v u Q I rx ry ⟨i, j, rfl, rfl, c, qk⟩
      · cases e1
    · simp only [binI] at e1
      split at e1
      · rename_i c
        cases e1
        exact op_mod pins sh σ H _ _ v u Q I rx ry ⟨i, j, rfl, rfl, c, qk⟩
      · cases e1
    · simp only [binI] at e1
      split at e1
      · rename_i c
        cases e1
        exact powW pins sh σ H _ _ v u Q I rx ry ⟨i, j, rfl, rfl, c, qk⟩
      · cases e1
/-! ### comparisons -/
def cmO : Cm → CmpOp
  | .eq => .Eq | .ne => .NotEq | .lt => .Lt | .le => .LtE | .gt => .Gt | .ge => .GtE | .isN => .Is | .notN => .IsNot | .inn => .In | .nin => .NotIn
theorem cmIs_eq {c : Cm} {p : CmpOp} (h : cmIs c p = true) : p = cmO c := by
  cases c <;> cases p <;> first | rfl | cases h
theorem cm_behind {c : Cm} {b : Expr} (h : notSet b = true) : behindInMarks (cmO c) b = false := by
  cases b <;> first | rfl | (cases h; done)
/-- what a comparison wants of the two values -/
def rCm (K : PySem.W.Frag) (c : Cm) : R2 := fun x y H Q => ∃ φ μ s dx dy b, RelS K φ μ H s ∧ RelD K φ μ H dx x ∧ RelD K φ μ H dy y ∧ cmpop c dx dy s = some b ∧ Q (.bl b) H
theorem isNon_rel {d : D} {v : V} (h : RelD K φ μ H d v) : isNon d = decide (v = .non) := by
  cases d with
  | non => cases relD_non h; rfl
  | bl b => cases relD_bl h; rfl
  | int b => cases relD_int h; rfl
  | str b => cases relD_str h; rfl
  | tup b => obtain ⟨a, vs, rfl, _⟩ := relD_tup h; rfl
  | flst b => obtain ⟨a, vs, rfl, _⟩ := relD_flst h; rfl
  | loc b => obtain ⟨a, rfl, _⟩ := relD_loc h; rfl
  | fdk _ _ => obtain ⟨a, _, _, rfl, _⟩ := relD_fdk h; rfl
  | fins _ _ _ => obtain ⟨a, _, _, _, rfl, _⟩ := relD_fins h; rfl
  | exc _ _ => obtain ⟨a, _, _, _, _, _, rfl, _⟩ := relD_exc h; rfl
  | clo _ _ => exact (relD_clo h).elim
theorem dec_vint {i j : Int} : decide (V.int i = V.int j) = decide (i = j) := by
  rw [Bool.eq_iff_iff]; simp
theorem dec_vstr {i j : Str} : decide (V.str i = V.str j) = decide (i = j) := by
  rw [Bool.eq_iff_iff]; simp
theorem dec_vbl {i j : Bool} : decide (V.bl i = V.bl j) = decide (i = j) := by
  rw [Bool.eq_iff_iff]; simp
theorem scEq_rel {a b : D} {x y : V} {t : Bool} (ra : RelD K φ μ H a x) (rb : RelD K φ μ H b y) (h : scEq a b = some t) : scal x y = true ∧ decide (x = y) = t := by
  cases a <;> cases b <;> first | (cases h; done) | skip
  all_goals (first | (have e1 := relD_non ra) | (have e1 := relD_bl ra) | (have e1 := relD_int ra) | (have e1 := relD_str ra))
  all_goals (first | (have e2 := relD_non rb) | (have e2 := relD_bl rb) | (have e2 := relD_int rb) | (have e2 := relD_str rb))
  all_goals subst e1 e2
  all_goals simp only [scEq, Option.some.injEq] at h
  all_goals subst h
  all_goals first | exact ⟨rfl, rfl⟩ | exact ⟨rfl, dec_vint⟩ | exact ⟨rfl, dec_vstr⟩ | exact ⟨rfl, dec_vbl⟩
theorem allOpt {α : Type} : ∀ {l : List (Option α)} {r : List α}, optAll l = some r → l = r.map some
  | [], r, h => by cases h; rfl
  | some a :: l, r, h => by
    simp only [optAll, Option.map_eq_some_iff] at h
    obtain ⟨q, h1, h2⟩ := h
    subst h2
    rw [List.map_cons, allOpt h1]
  | none :: l, r, h => by cases h
/-- a tree as plain data -/
theorem dp_of (rs : RelS K φ μ H s) : ∀ (n : Nat) (d : D) (v : V) (p : PyData), RelD K φ μ H d v → toPy s n d = some p → Dp K H v p := by
  have many : ∀ n, (∀ (d : D) (v : V) (p : PyData), RelD K φ μ H d v → toPy s n d = some p → Dp K H v p) → ∀ (ds : List D) (vs : List V) (ps : List PyData), RelL K φ μ H ds vs → ds.map (toPy s n) = ps.map some → DpAll K H vs ps := by
    intro n ih ds
    induction ds with
    | nil =>
      intro vs ps r e
      rw [r.of_nil]
      have : ps = [] := by simpa using e.symm
      subst this
      exact .nil
    | cons d ds ih2 =>
      intro vs ps r e
      obtain ⟨v, vr, rfl, r1, r2⟩ := r.of_cons
      cases ps with
      | nil => simp at e
      | cons p ps =>
        rw [List.map_cons, List.map_cons] at e
        injection e with e1 e2
        exact .cons (ih d v p r1 e1) (ih2 vr ps r2 e2)
  intro n
  induction n with
  | zero =>
    intro d v p rd h
    cases d <;> first | (simp [toPy] at h; done) | skip
    · cases relD_non rd; cases h; exact .non
    · cases relD_bl rd; cases h; exact .bl _
    · cases relD_int rd; cases h; exact .int _
    · cases relD_str rd; cases h; exact .str _
  | succ n ih =>
    intro d v p rd h
    cases d with
    | non => cases relD_non rd; cases h; exact .non
    | bl b => cases relD_bl rd; cases h; exact .bl _
    | int b => cases relD_int rd; cases h; exact .int _
    | str b => cases relD_str rd; cases h; exact .str _
    | tup xs =>
      obtain ⟨a, vs, rfl, h1, h2⟩ := relD_tup rd
      simp only [toPy] at h
      obtain ⟨ps, e1, e2⟩ := Option.map_eq_some_iff.mp h
      subst e2
      exact .tup h1 (many n ih _ _ _ h2 (allOpt e1))
    | flst xs =>
      obtain ⟨a, vs, rfl, h1, h2⟩ := relD_flst rd
      simp only [toPy] at h
      obtain ⟨ps, e1, e2⟩ := Option.map_eq_some_iff.mp h
      subst e2
      exact .lst h1.sq (many n ih _ _ _ h2 (allOpt e1))
    | loc k =>
      obtain ⟨a, rfl, h1⟩ := relD_loc rd
      simp only [toPy] at h
      cases z : s[k]? with
      | none => rw [z] at h; cases h
      | some c =>
        rw [z] at h
        cases c with
        | lst xs =>
          obtain ⟨vs, e1, e2⟩ := rs.cell k _ a z h1
          simp only at h
          obtain ⟨ps, e3, e4⟩ := Option.map_eq_some_iff.mp h
          subst e4
          exact .lst (SqL.of e1) (many n ih _ _ _ e2 (allOpt e3))
        | dk _ => cases h
        | lk _ => cases h
        | ins _ _ => cases h
    | fdk _ _ => simp [toPy] at h
    | fins _ _ _ => simp [toPy] at h
    | exc _ _ => simp [toPy] at h
    | clo _ _ => simp [toPy] at h
theorem eqR_rel {a b : D} {x y : V} {t : Bool} (rs : RelS K φ μ H s) (ra : RelD K φ μ H a x) (rb : RelD K φ μ H b y) (h : eqR a b s = some t) : (scal x y = true ∧ decide (x = y) = t) ∨ ∃ p q, Dp K H x p ∧ Dp K H y q ∧ SeqAt.shaped p = true ∧ SeqAt.shaped q = true ∧ PyData.eqv p q = t := by
  unfold eqR at h
  cases z : scEq a b with
  | some t' =>
    rw [z] at h
    cases h
    exact .inl (scEq_rel ra rb z)
  | none =>
    rw [z] at h
    simp only at h
    split at h <;> first | (cases h; done) | skip
    rename_i p q e1 e2
    split at h <;> first | (cases h; done) | skip
    rename_i c
    obtain ⟨c1, c2⟩ := Bool.and_eq_true_iff.mp c
    exact .inr ⟨p, q, dp_of rs _ _ _ _ ra e1, dp_of rs _ _ _ _ rb e2, c1, c2, Option.some.inj h⟩
theorem flat_rel {a : D} {x : V} (ra : RelD K φ μ H a x) (h : scalar a = true) : flatV x = true := by
  cases a <;> first | (cases h; done) | skip
  · cases relD_non ra; rfl
  · cases relD_bl ra; rfl
  · cases relD_int ra; rfl
  · cases relD_str ra; rfl
theorem flatEq_rel {a b : D} {x y : V} (ra : RelD K φ μ H a x) (rb : RelD K φ μ H b y) (h : scalar a = true) (g : scalar b = true) : eqV x y = flatEq a b := by
  cases a <;> cases b <;> first | (cases h; done) | (cases g; done) | skip
  all_goals (first | (have e1 := relD_non ra) | (have e1 := relD_bl ra) | (have e1 := relD_int ra) | (have e1 := relD_str ra))
  all_goals (first | (have e2 := relD_non rb) | (have e2 := relD_bl rb) | (have e2 := relD_int rb) | (have e2 := relD_str rb))
  all_goals subst e1 e2
  all_goals rfl
theorem flats_rel {a : D} {x : V} (ra : RelD K φ μ H a x) (h : scalar a = true) : ∀ {ds : List D} {vs : List V}, RelL K φ μ H ds vs → ds.all scalar = true → vs.all flatV = true ∧ inV x vs = ds.any fun z => flatEq z a
  | [], vs, r, _ => by rw [r.of_nil]; exact ⟨rfl, rfl⟩
  | d :: ds, vs, r, g => by
    obtain ⟨v, vr, rfl, r1, r2⟩ := r.of_cons
    rw [List.all_cons, Bool.and_eq_true] at g
    obtain ⟨h1, h2⟩ := flats_rel ra h r2 g.2
    refine ⟨by rw [List.all_cons, flat_rel r1 g.1, h1]; rfl, ?_⟩
    unfold inV at h2 ⊢
    rw [List.any_cons, List.any_cons, h2, flatEq_rel r1 ra g.1 h]
theorem inR_rel {a b : D} {x y : V} {t : Bool} (rs : RelS K φ μ H s) (ra : RelD K φ μ H a x) (rb : RelD K φ μ H b y) (h : inR a b s = some t) :
    (∃ i j, x = .str i ∧ y = .str j ∧ ((∃ c, i = ⟨#[c]⟩ ∧ decide (c ∈ j.cps.toList) = t) ∨ (!(Builtin.Str.occurrences j i 0 j.length 1).isEmpty) = t)) ∨
    (∃ p vs, y = .ref p ∧ (SqL K H p vs ∨ SqT K H p vs) ∧ flatV x = true ∧ vs.all flatV = true ∧ inV x vs = t) ∨
    (∃ d ds, Dp K H x d ∧ Dp K H y (.list ds) ∧ SeqAt.shaped d = true ∧ SeqAt.shaped (.list ds) = true ∧ (ds.any fun z => PyData.eqv z d) = t) ∨
    ∃ p r, y = .ref p ∧ DGet H p x r ∧ r.isSome = t := by
  unfold inR at h
  split at h
  · rename_i j
    split at h <;> first | (cases h; done) | skip
    rename_i i
    refine .inl ⟨i, j, relD_str ra, relD_str rb, ?_⟩
    have e := Option.some.inj h
    unfold inStr at e
    split at e
    · rename_i c hc
      refine .inl ⟨c, ?_, e⟩
      cases i with
      | mk cps =>
        cases cps with
        | mk l =>
          have : l = [c] := hc
          subst this
          rfl
    · exact .inr e
  · cases zd : dicOf b s with
    | some kvs =>
      rw [zd] at h
      obtain ⟨k, e1, e2⟩ := Option.map_eq_some_iff.mp h
      obtain ⟨p, ws, rfl, h1, h2⟩ := dic_rel rs rb zd
      exact .inr (.inr (.inr ⟨p, _, rfl, .inl ⟨ws, k, h1, key_rel ra e1, rfl⟩, h2.isSome.trans e2⟩))
    | none =>
    rw [zd] at h
    unfold inSeq at h
    simp only at h
    cases z : sq b s with
    | none => rw [z] at h; cases h
    | some q =>
      rw [z] at h
      simp only at h
      obtain ⟨p, vs, rfl, hq, rl⟩ := sq_rel rs rb z
      split at h
      · rename_i c
        obtain ⟨c1, c2⟩ := Bool.and_eq_true_iff.mp c
        obtain ⟨f1, f2⟩ := flats_rel ra c1 rl c2
        refine .inr (.inl ⟨p, vs, rfl, ?_, flat_rel ra c1, f1, f2.trans (Option.some.inj h)⟩)
        unfold SqA at hq
        split at hq
        · exact .inr hq
        · exact .inl hq
      · split at h
        · cases h
        · split at h <;> first | (cases h; done) | skip
          rename_i d ds e1 e2
          split at h <;> first | (cases h; done) | skip
          rename_i c
          obtain ⟨c1, c2⟩ := Bool.and_eq_true_iff.mp c
          exact .inr (.inr (.inl ⟨d, ds, dp_of rs _ _ _ _ ra e1, dp_of rs _ _ _ _ rb e2, c1, c2, Option.some.inj h⟩))
theorem op_cm {k : Nat} (hr : Room k X.A) (c : Cm) : OpR X (compareOp (cmO c)) (rCm X.K c) := by
  have hu : X.A.units + 65 < cLine := by have := hr.un; omega
  intro pins sh σ H x y v u Q I rx ry h
  obtain ⟨φ, μ, s, dx, dy, b, rs, r1, r2, e, q⟩ := h
  cases c with
  | isN =>
    simp only [cmpop] at e
    by_cases z : isNon dy = true
    · rw [if_pos z] at e
      cases e
      rw [isNon_rel r2] at z
      exact op_isN pins sh σ H x y v u Q I rx ry ⟨of_decide_eq_true z, by rw [← isNon_rel r1]; exact q⟩
    · rw [if_neg z] at e; cases e
  | notN =>
    simp only [cmpop] at e
    by_cases z : isNon dy = true
    · rw [if_pos z] at e
      cases e
      rw [isNon_rel r2] at z
      exact op_notN pins sh σ H x y v u Q I rx ry ⟨of_decide_eq_true z, by rw [← isNon_rel r1]; exact q⟩
    · rw [if_neg z] at e; cases e
  | eq =>
    rcases eqR_rel rs r1 r2 (show eqR dx dy s = some b from e) with ⟨h1, h2⟩ | ⟨p, q', h1, h2, h3, h4, h5⟩
    · exact op_eq pins sh σ H x y v u Q I rx ry ⟨h1, by rw [h2]; exact q⟩
    · exact op_eqD (by omega) pins sh σ H x y v u Q I rx ry ⟨p, q', h1, h2, h3, h4, by rw [h5]; exact q⟩
  | ne =>
    obtain ⟨t, e1, e2⟩ := Option.map_eq_some_iff.mp (show (eqR dx dy s).map (!·) = some b from e)
    subst e2
    rcases eqR_rel rs r1 r2 e1 with ⟨h1, h2⟩ | ⟨p, q', h1, h2, h3, h4, h5⟩
    · exact op_ne pins sh σ H x y v u Q I rx ry ⟨h1, by rw [h2]; exact q⟩
    · exact op_neD (by omega) pins sh σ H x y v u Q I rx ry ⟨p, q', h1, h2, h3, h4, by rw [h5]; exact q⟩
  | inn =>
    rcases inR_rel rs r1 r2 (show inR dx dy s = some b from e) with ⟨i, j, rfl, rfl, ⟨c, rfl, h1⟩ | h1⟩ | ⟨p, vs, rfl, h1, h2, h3, h4⟩ | ⟨d, ds, h1, h2, h3, h4, h5⟩ | ⟨p, r, rfl, h1, h2⟩
    · exact op_in_sign pins sh σ H _ _ v u Q I rx ry ⟨c, j, rfl, rfl, by rw [h1]; exact q⟩
    · exact op_in_str pins sh σ H _ _ v u Q I rx ry ⟨i, j, rfl, rfl, by rw [h1]; exact q⟩
    · exact op_in_seq pins sh σ H _ _ v u Q I rx ry ⟨p, vs, rfl, h1, h2, h3, by rw [h4]; exact q⟩
    · exact op_inD hu pins sh σ H _ _ v u Q I rx ry ⟨d, ds, h1, h2, h3, h4, by rw [h5]; exact q⟩
    · cases ry; exact d_in (by omega) I h1 rx fun s' I' => ⟨.bl r.isSome, H, I', rfl, by rw [h2]; exact q⟩
  | nin =>
    obtain ⟨t, e1, e2⟩ := Option.map_eq_some_iff.mp (show (inR dx dy s).map (!·) = some b from e)
    subst e2
    rcases inR_rel rs r1 r2 e1 with ⟨i, j, rfl, rfl, ⟨c, rfl, h1⟩ | h1⟩ | ⟨p, vs, rfl, h1, h2, h3, h4⟩ | ⟨d, ds, h1, h2, h3, h4, h5⟩ | ⟨p, r, rfl, h1, h2⟩
    · exact op_notIn_sign pins sh σ H _ _ v u Q I rx ry ⟨c, j, rfl, rfl, by rw [h1]; exact q⟩
    · exact op_notin_str pins sh σ H _ _ v u Q I rx ry ⟨i, j, rfl, rfl, by rw [h1]; exact q⟩
    · exact op_notIn_seq pins sh σ H _ _ v u Q I rx ry ⟨p, vs, rfl, h1, h2, h3, by rw [h4]; exact q⟩
    · exact op_notInD hu pins sh σ H _ _ v u Q I rx ry ⟨d, ds, h1, h2, h3, h4, by rw [h5]; exact q⟩
    · cases ry; exact d_notIn (by omega) I h1 rx fun s' I' => ⟨.bl (!r.isSome), H, I', rfl, by rw [h2]; exact q⟩
  | lt =>
    have e' : ordR .lt dx dy = some b := e
    unfold ordR at e'
    split at e'
    · have e1 := relD_int r1; have e2 := relD_int r2; subst e1 e2
      cases e'
      exact op_lt pins sh σ H _ _ v u Q I rx ry ⟨_, _, rfl, rfl, q⟩
    · have e1 := relD_str r1; have e2 := relD_str r2; subst e1 e2
      cases e'
      exact op_lt_str pins sh σ H _ _ v u Q I rx ry ⟨_, _, rfl, rfl, q⟩
    · cases e'
  | le =>
    have e' : ordR .le dx dy = some b := e
    unfold ordR at e'
    split at e'
    · have e1 := relD_int r1; have e2 := relD_int r2; subst e1 e2
      cases e'
      exact op_le pins sh σ H _ _ v u Q I rx ry ⟨_, _, rfl, rfl, q⟩
    · have e1 := relD_str r1; have e2 := relD_str r2; subst e1 e2
      cases e'
      exact op_le_str pins sh σ H _ _ v u Q I rx ry ⟨_, _, rfl, rfl, q⟩
    · cases e'
  | gt =>
    have e' : ordR .gt dx dy = some b := e
    unfold ordR at e'
    split at e'
    · have e1 := relD_int r1; have e2 := relD_int r2; subst e1 e2
      cases e'
      exact op_gt pins sh σ H _ _ v u Q I rx ry ⟨_, _, rfl, rfl, q⟩
    · cases e'
    · cases e'
  | ge =>
    have e' : ordR .ge dx dy = some b := e
    unfold ordR at e'
    split at e'
    · have e1 := relD_int r1; have e2 := relD_int r2; subst e1 e2
      cases e'
      exact op_ge pins sh σ H _ _ v u Q I rx ry ⟨_, _, rfl, rfl, q⟩
    · cases e'
    · cases e'
end
end Mi

/-! # Methods by values -/
namespace Mi
open PySem PySem.Spec PyProof.Rows L2
def mtId : Mt → String
  | .append => "list.append" | .extend => "list.extend" | .pop => "list.pop" | .popAt => "list.pop" | .insert => "list.insert" | .index => "list.index"
  | .join => "str.join" | .split => "str.split" | .words => "str.split"
/-- what a method asks -/
def rMt (K : PySem.W.Frag) (f : Mt) : V → List V → Hp → VK → Prop := fun x vs H Q => ∃ φ μ s d ds r, RelS K φ μ H s ∧ RelD K φ μ H d x ∧ RelL K φ μ H ds vs ∧ mthR f d ds s = some r ∧
  ∀ φ' μ' H' v, Le K φ μ H φ' μ' H' → RelS K φ' μ' H' r.2 → relP K φ' μ' H' r.1 v → Q v H'
section
variable {X : Cx} {K : PySem.W.Frag} {φ : Fz} {μ : List Addr} {H : Hp} {s : Sto} {Q : VK}
theorem valP {d : D} {v : V} (h : RelD K φ μ H d v) : relP K φ μ H (.val d) v := h
theorem one_of {ds : List D} {d : D} {vs : List V} (r : RelL K φ μ H [d] vs) : ∃ v, vs = [v] ∧ RelD K φ μ H d v := by
  obtain ⟨v, vr, rfl, r1, r2⟩ := r.of_cons
  rw [r2.of_nil]
  exact ⟨v, rfl, r1⟩
theorem two_of {a b : D} {vs : List V} (r : RelL K φ μ H [a, b] vs) : ∃ v w, vs = [v, w] ∧ RelD K φ μ H a v ∧ RelD K φ μ H b w := by
  obtain ⟨v, vr, rfl, r1, r2⟩ := r.of_cons
  obtain ⟨w, wr, rfl, r3, r4⟩ := r2.of_cons
  rw [r4.of_nil]
  exact ⟨v, w, rfl, r1, r3⟩
/-- a list at a place is written -/
theorem put_lst {n : Nat} {a : Addr} {xs ys : List D} {vs us : List V} (rs : RelS K φ μ H s) (e : s[n]? = some (.lst xs)) (h : μ[n]? = some a) (g : H a = some (.lst vs)) (r : RelL K φ μ H ys us) :
    Le K φ μ H φ μ (upd H a (.lst us)) ∧ RelS K φ μ (upd H a (.lst us)) (s.set n (.lst ys)) := by
  have l := Le.write (o := .lst us) rs h g (fun _ z => (nomatch z)) (fun _ _ z => (nomatch z))
  exact ⟨l, RelS.write rs h g (fun _ z => (nomatch z)) (fun _ _ z => (nomatch z)) ⟨us, upd_same, r.up l⟩⟩
theorem RelL.last {ds : List D} {vs : List V} (r : RelL K φ μ H ds vs) : RelL K φ μ H ds.dropLast vs.dropLast := by
  rw [List.dropLast_eq_take, List.dropLast_eq_take, r.length]
  exact r.take _
theorem RelL.erase : ∀ {ds : List D} {vs : List V} (i : Nat), RelL K φ μ H ds vs → RelL K φ μ H (ds.eraseIdx i) (vs.eraseIdx i)
  | [], vs, i, r => by rw [r.of_nil]; exact .nil
  | d :: ds, vs, 0, r => by
    obtain ⟨v, vr, rfl, _, r2⟩ := r.of_cons
    exact r2
  | d :: ds, vs, i + 1, r => by
    obtain ⟨v, vr, rfl, r1, r2⟩ := r.of_cons
    exact .cons r1 (r2.erase i)
theorem strs_rel : ∀ {ds : List D} {vs : List V} {ys : List Str}, RelL K φ μ H ds vs → strsOf ds = some ys → vs = ys.map V.str
  | [], vs, ys, r, h => by cases h; exact r.of_nil
  | d :: ds, vs, ys, r, h => by
    obtain ⟨v, vr, rfl, r1, r2⟩ := r.of_cons
    cases d <;> first | (cases h; done) | skip
    obtain ⟨zs, e1, e2⟩ := Option.map_eq_some_iff.mp (show (strsOf ds).map (_ :: ·) = some ys from h)
    subst e2
    rw [relD_str r1, strs_rel r2 e1]
    rfl
theorem mk_strs : ∀ (ys : List Str), RelL K φ μ H (ys.map .str) (ys.map V.str)
  | [] => .nil
  | y :: ys => .cons mk_str (mk_strs ys)
theorem idxOf_spec {x : D} : ∀ {ds : List D} {n j : Nat}, idxOf x ds n = some j → ∃ i, j = n + i ∧ (∃ z, ds[i]? = some z ∧ flatEq z x = true) ∧ ∀ m z, m < i → ds[m]? = some z → flatEq z x = false
  | [], n, j, h => by cases h
  | y :: r, n, j, h => by
    unfold idxOf at h
    split at h
    · rename_i c
      cases h
      exact ⟨0, rfl, ⟨y, rfl, c⟩, fun m z hm => absurd hm (Nat.not_lt_zero m)⟩
    · rename_i c
      obtain ⟨i, e, ⟨z, e1, e2⟩, g⟩ := idxOf_spec h
      refine ⟨i + 1, by omega, ⟨z, e1, e2⟩, fun m z hm hz => ?_⟩
      cases m with
      | zero =>
        cases hz
        exact Bool.eq_false_iff.mpr c
      | succ m => exact g m z (by omega) hz
theorem flats_all : ∀ {ds : List D} {vs : List V}, RelL K φ μ H ds vs → ds.all scalar = true → vs.all flatV = true
  | [], vs, r, _ => by rw [r.of_nil]; rfl
  | d :: ds, vs, r, h => by
    obtain ⟨v, vr, rfl, r1, r2⟩ := r.of_cons
    rw [List.all_cons, Bool.and_eq_true] at h
    rw [List.all_cons, flat_rel r1 h.1, flats_all r2 h.2]
    rfl
theorem RelL.of_get {ds : List D} {vs : List V} (r : RelL K φ μ H ds vs) {i : Nat} {v : V} (h : vs[i]? = some v) : ∃ d, ds[i]? = some d ∧ RelD K φ μ H d v := by
  have hi := (List.getElem?_eq_some_iff.mp h).1
  rw [← r.length] at hi
  obtain ⟨w, e1, e2⟩ := r.get (List.getElem?_eq_getElem hi)
  rw [h] at e1
  cases e1
  exact ⟨_, List.getElem?_eq_getElem hi, e2⟩
theorem mt_rule (f : Mt) : MtR X (mtId f) (rMt X.K f) := by
  intro pins sh σ H x vs v us Q I rx rv h
  obtain ⟨φ, μ, s, d, ds, r, rs, rd, rl, e, q⟩ := h
  cases f with
  | append =>
    simp only [mthR] at e
    split at e <;> first | (cases e; done) | skip
    rename_i n y
    split at e <;> first | (cases e; done) | skip
    rename_i xs hx
    split at e <;> first | (cases e; done) | skip
    rename_i c
    cases e
    obtain ⟨a, rfl, h1⟩ := relD_loc rd
    obtain ⟨w, rfl, rw'⟩ := one_of (ds := []) rl
    obtain ⟨ws, g1, g2⟩ := rs.cell n _ a hx h1
    obtain ⟨l, rs'⟩ := put_lst rs hx h1 g1 (g2.append (.cons rw' .nil))
    exact mt_append pins sh σ H _ _ v us Q I rx rv ⟨a, ws, w, rfl, rfl, g1, by rw [← g2.length]; exact Nat.lt_of_lt_of_le c (by decide), q φ μ _ .non l rs' (valP mk_non)⟩
  | extend =>
    simp only [mthR] at e
    split at e <;> first | (cases e; done) | skip
    rename_i n y
    split at e <;> first | (cases e; done) | skip
    rename_i xs ys hx hy
    split at e <;> first | (cases e; done) | skip
    rename_i c
    cases e
    obtain ⟨a, rfl, h1⟩ := relD_loc rd
    obtain ⟨w, rfl, rw'⟩ := one_of (ds := []) rl
    obtain ⟨ws, g1, g2⟩ := rs.cell n _ a hx h1
    obtain ⟨b, zs, its2, n2, rfl, _, k1, k2, k3, k4⟩ := lst_at I rs rw' hy
    obtain ⟨l, rs'⟩ := put_lst rs hx h1 g1 (g2.append k1)
    cases rx
    obtain ⟨u, rfl, ru⟩ := rv.one
    cases ru
    obtain ⟨z, its, n1, r1, hl, e1⟩ := I.lstM g1
    have small : its.toArray.size + its2.toArray.size ≤ sizeLine := by
      rw [List.size_toArray, List.size_toArray, ← hl, ← k3, ← g2.length, ← k1.length]
      exact le_lineN c
    have short : ¬ (!its.toArray.isEmpty && Builtin.List.listTooLong (its.toArray.size + its2.toArray.size)) = true := by
      rw [notLongL small, Bool.and_false]
      exact Bool.false_ne_true
    have z2 : its2.toArray.size ≤ sizeLine := by omega
    have z1 : its.toArray.size ≤ sizeLine := by omega
    refine call_meets PySem.F.slot_list_extend ⟨_, e1, rfl⟩ PySem.F.entry_list_extend (PySem.F.args_list_extend_2 _ _) (AutoSeq1.list_extend_list_list_0 a its.toArray n1 b its2.toArray n2 short z1 (by omega)) ⟨e1, k4, ?_⟩
    exact ⟨.non, _, I.lset (its' := its ++ its2) g1 e1 (by simp) (r1.append k2) (by rw [List.length_append, ← g2.length, ← k1.length]; exact le_lineN c), rfl, q φ μ _ .non l rs' (valP mk_non)⟩
  | pop =>
    simp only [mthR] at e
    split at e <;> first | (cases e; done) | skip
    rename_i n
    split at e <;> first | (cases e; done) | skip
    rename_i xs hx
    split at e <;> first | (cases e; done) | skip
    rename_i d' hd
    cases e
    obtain ⟨a, rfl, h1⟩ := relD_loc rd
    have e0 := rl.of_nil
    subst e0
    obtain ⟨ws, g1, g2⟩ := rs.cell n _ a hx h1
    obtain ⟨w, w1, w2⟩ := g2.get hd
    rw [g2.length] at w1
    obtain ⟨l, rs'⟩ := put_lst rs hx h1 g1 g2.last
    exact mt_pop pins sh σ H _ _ v us Q I rx rv ⟨a, ws, w, rfl, rfl, g1, w1, q φ μ _ w l rs' (valP (w2.up l))⟩
  | popAt =>
    simp only [mthR] at e
    split at e <;> first | (cases e; done) | skip
    rename_i n i
    split at e <;> first | (cases e; done) | skip
    rename_i xs hx
    split at e <;> first | (cases e; done) | skip
    rename_i c
    split at e <;> first | (cases e; done) | skip
    rename_i d' hd
    cases e
    obtain ⟨a, rfl, h1⟩ := relD_loc rd
    obtain ⟨w0, rfl, rw'⟩ := one_of (ds := []) rl
    have ei := relD_int rw'
    subst ei
    obtain ⟨ws, g1, g2⟩ := rs.cell n _ a hx h1
    obtain ⟨w, w1, w2⟩ := g2.get hd
    have hi : i.toNat < ws.length := (List.getElem?_eq_some_iff.mp w1).1
    obtain ⟨l, rs'⟩ := put_lst rs hx h1 g1 (g2.erase i.toNat)
    refine mt_popAt pins sh σ H _ _ v us Q I rx rv ⟨a, ws, i, i.toNat, w, rfl, rfl, g1, by omega, c.2, ?_, w1, q φ μ _ w l rs' (valP (w2.up l))⟩
    have : ixN ws.length i = some i.toNat := by
      unfold ixN
      rw [if_pos c.1, if_pos (by omega)]
    exact (ixN_seq this).1
  | insert =>
    simp only [mthR] at e
    split at e <;> first | (cases e; done) | skip
    rename_i n i y
    split at e <;> first | (cases e; done) | skip
    rename_i xs hx
    split at e <;> first | (cases e; done) | skip
    rename_i c
    cases e
    obtain ⟨a, rfl, h1⟩ := relD_loc rd
    obtain ⟨w0, w, rfl, r0, rw'⟩ := two_of rl
    have ei := relD_int r0
    subst ei
    obtain ⟨ws, g1, g2⟩ := rs.cell n _ a hx h1
    obtain ⟨l, rs'⟩ := put_lst rs hx h1 g1 (((g2.take i.toNat).append (.cons rw' .nil)).append (g2.drop i.toNat))
    exact mt_insert pins sh σ H _ _ v us Q I rx rv ⟨a, ws, i, w, rfl, rfl, g1, by rw [← g2.length]; exact Nat.lt_of_lt_of_le c.1 (by decide), c.2.1, c.2.2, q φ μ _ .non l rs' (valP mk_non)⟩
  | index =>
    simp only [mthR] at e
    split at e <;> first | (cases e; done) | skip
    rename_i xs y hx
    split at e <;> first | (cases e; done) | skip
    rename_i c
    obtain ⟨c1, c2⟩ := Bool.and_eq_true_iff.mp c
    obtain ⟨j, e1, e2⟩ := Option.map_eq_some_iff.mp e
    subst e2
    obtain ⟨w, rfl, rw'⟩ := one_of (ds := []) rl
    obtain ⟨a, ws, its, n, rfl, g1, g2, _, _, _⟩ := lst_at I rs rd hx
    obtain ⟨i, ej, ⟨z, z1, z2⟩, no⟩ := idxOf_spec e1
    rw [Nat.zero_add] at ej
    subst ej
    obtain ⟨wz, k1, k2⟩ := g2.get z1
    have sc : ∀ {m : Nat} {z : D}, xs[m]? = some z → scalar z = true := fun hm => List.all_eq_true.mp c2 _ (List.mem_of_getElem? hm)
    refine mt_index pins sh σ H _ _ v us Q I rx rv ⟨a, ws, w, j, wz, rfl, rfl, g1, flat_rel rw' c1, flats_all g2 c2, k1, by rw [flatEq_rel k2 rw' (sc z1) c1]; exact z2, fun m z' hm hz => ?_, q φ μ H _ Le.refl rs (valP mk_int)⟩
    obtain ⟨d', m1, m2⟩ := g2.of_get hz
    rw [flatEq_rel m2 rw' (sc m1) c1]
    exact no m d' hm m1
  | join =>
    simp only [mthR] at e
    split at e <;> first | (cases e; done) | skip
    rename_i a y
    split at e <;> first | (cases e; done) | skip
    rename_i q1 hq
    split at e <;> first | (cases e; done) | skip
    rename_i ys hy
    split at e <;> first | (cases e; done) | skip
    rename_i c
    cases e
    have ex := relD_str rd
    subst ex
    obtain ⟨w, rfl, rw'⟩ := one_of (ds := []) rl
    obtain ⟨p, ws, rfl, h1, h2⟩ := sq_rel rs rw' hq
    have ew := strs_rel h2 hy
    subst ew
    refine mt_join pins sh σ H _ _ v us Q I rx rv ⟨a, p, ys, rfl, rfl, ?_, c, q φ μ H _ Le.refl rs (valP mk_str)⟩
    unfold SqA at h1
    split at h1
    · exact .inr h1
    · exact .inl h1
  | split =>
    simp only [mthR] at e
    split at e <;> first | (cases e; done) | skip
    rename_i a b
    split at e <;> first | (cases e; done) | skip
    rename_i c
    cases e
    have ex := relD_str rd
    subst ex
    obtain ⟨w, rfl, rw'⟩ := one_of (ds := []) rl
    have ew := relD_str rw'
    subst ew
    exact mt_split pins sh σ H _ _ v us Q I rx rv ⟨a, b, rfl, rfl, c.1, le_lineN c.2, EndP.new (s := s) (fun φ' μ' H' v l rs' rp => q φ' μ' H' v l rs' rp) rs (mk_strs _)⟩
  | words =>
    simp only [mthR] at e
    split at e <;> first | (cases e; done) | skip
    rename_i a
    split at e <;> first | (cases e; done) | skip
    rename_i c
    cases e
    have ex := relD_str rd
    subst ex
    have e0 := rl.of_nil
    subst e0
    exact mt_words pins sh σ H _ _ v us Q I rx rv ⟨a, rfl, rfl, le_lineN c, EndP.new (s := s) (fun φ' μ' H' v l rs' rp => q φ' μ' H' v l rs' rp) rs (mk_strs _)⟩
/-- whose methods they are -/
def mtT (f : Mt) : String := if f.isStr then "str" else "list"
theorem mt_facts (f : Mt) : PlainAttrs (mtT f) ∧ Slot (mtT f) (mtName f) (mtId f) ∧ typeOf (.builtin (mtId f)) = pure (.type "method_descriptor") := by
  cases f with
  | append => exact ⟨PySem.F.plainAttrs_list, PySem.F.slot_list_append, PySem.F.type_list_append⟩
  | extend => exact ⟨PySem.F.plainAttrs_list, PySem.F.slot_list_extend, PySem.F.type_list_extend⟩
  | pop => exact ⟨PySem.F.plainAttrs_list, PySem.F.slot_list_pop, PySem.F.type_list_pop⟩
  | popAt => exact ⟨PySem.F.plainAttrs_list, PySem.F.slot_list_pop, PySem.F.type_list_pop⟩
  | insert => exact ⟨PySem.F.plainAttrs_list, PySem.F.slot_list_insert, PySem.F.type_list_insert⟩
  | index => exact ⟨PySem.F.plainAttrs_list, PySem.F.slot_list_index, PySem.F.type_list_index⟩
  | join => exact ⟨PySem.F.plainAttrs_str, PySem.F.slot_str_join, PySem.F.type_str_join⟩
  | split => exact ⟨PySem.F.plainAttrs_str, PySem.F.slot_str_split, PySem.F.type_str_split⟩
  | words => exact ⟨PySem.F.plainAttrs_str, PySem.F.slot_str_split, PySem.F.type_str_split⟩
theorem ty_of {f : Mt} {d : D} {v : V} (rs : RelS K φ μ H s) (rd : RelD K φ μ H d v) (h : mtTy f d s = true) : tyV K (mtT f) v H := by
  unfold mtTy at h
  unfold mtT
  split at h
  · rename_i c
    rw [if_pos c]
    cases d <;> first | (cases h; done) | skip
    rw [relD_str rd]
    rfl
  · rename_i c
    rw [if_neg c]
    cases d <;> first | (cases h; done) | skip
    · obtain ⟨a, vs, rfl, h1, _⟩ := relD_flst rd
      exact .inl ⟨rfl, vs, h1.sq⟩
    · rename_i n
      obtain ⟨a, rfl, h1⟩ := relD_loc rd
      simp only [lstOf] at h
      cases z : s[n]? with
      | none => rw [z] at h; cases h
      | some cc =>
        cases cc with
        | lst xs =>
          obtain ⟨vs, e1, _⟩ := rs.cell n _ a z h1
          exact .inl ⟨rfl, vs, SqL.of e1⟩
        | dk _ => rw [z] at h; cases h
        | lk _ => rw [z] at h; cases h
        | ins _ _ => rw [z] at h; cases h
end
end Mi

/-! # The rules, one a construct -/
namespace Mi
open PySem L2
/-- what a function of the table promises -/
def spF (K : PySem.W.Frag) (o : Orc) (f : Nat) : Sp := fun vs H Q E => ∃ φ μ s ds, RelS K φ μ H s ∧ RelL K φ μ H ds vs ∧ Fin K (fun c d _ H' => E c d H') (RelD K) φ μ H [] (o f ds s) Q
/-- what a function of the table promises that is handed the lambda t -/
def spT (K : PySem.W.Frag) (o : Orc) (f : Nat) (t : Th) : Sp := fun vs H Q E => ∃ φ μ s ds0 ds, RelS K φ μ H s ∧ RelL K φ μ H ds0 t.vs ∧ RelL K φ μ H ds vs ∧ H t.c = some (LamX.CodeO t.c t.q) ∧ Fin K (fun c d _ H' => E c d H') (RelD K) φ μ H [] (o f (.clo t.n ds0 :: ds) s) Q
/-- the error classes know of one another -/
def IsX (K : PySem.W.Frag) (d : String) : Prop := ∀ c ∈ errNames, ∀ C D, ClsAt K (Str.ofString c) C → ClsAt K (Str.ofString d) D → PySem.W.kitOne K (.ref C) (.ref D) = some (excIs c (Str.ofString d))
/-- a call by keywords: their names, which value goes to which parameter -/
def KB (K : PySem.W.Frag) (fd : PySem.FuncData) (ps : List Str) (q : List Str × List Nat) : Prop :=
  ∀ (s : Shared) (us ws : List Value), K.In s.heap → us.length = q.1.length → permOf us q.2 = some ws → BindsTo s fd ⟨[], q.1.zip us⟩ (ps.zip ws)
/-- a class of the table that is called: what its __init__ is asked -/
def MkSp (K : PySem.W.Frag) (o : Orc) (f : Nat) (C : Addr) (spI : Sp) : Prop := ∀ vs H Q E, spF K o f vs H Q E → ∀ x dx, H x = none → H dx = none → dx ≠ x →
  spI (.ref x :: vs) (upd (upd H dx (.own x)) x (.ins C dx [])) (fun v H2 => v = .non ∧ Lk (Q (.ref x)) H2) E
/-- what is known of a def whose lambdas may be made -/
structure LamOk (K : PySem.W.Frag) (base : Heap) (mg : Str → Option Value) (qual : Str) (code : Value) (x : Str) : Prop where
  mem : x ∈ lamMakers
  glo : (He.Fa.glo x).ok K = true
  qual : qual ++ ("<lambda>" : Str) = lamQual x
  code : code = .ref (He.cT K (x, none)).1
  tb : LamX.TabB base mg (He.cT K (x, none)).1 (He.cT K (x, none)).2
  uq : ∀ y ∈ lamMakers, (He.Fa.glo y).ok K = true → (He.cT K (y, none)).2 = (He.cT K (x, none)).2 → y = x
/-- where a piece runs -/
structure Good (T : Tab) (xc : XcT) (o : Orc) (W : WX) (k : Nat) (C : SC) (X : Cx) : Prop where
  calm : X.calm = true
  nd : C.N.Nodup
  N : X.N = C.N
  sc : X.env.scope = C.sc
  fn : X.fn = C.fn
  free : ∀ x ∈ T.frees, X.mg x = none
  room : Room (2 * k + 1) X.A
  guards : X.A.guards = some []
  takes : Takes X W
  own : PassesOwn (model X.prog X.w) X.A X.env X.xe
  glo : ∀ p ∈ T.glos, ∃ u v, X.mg p.1 = some u ∧ RelV v u ∧ ∀ φ μ H, RelD X.K φ μ H p.2 v
  call : ∀ f x, T.fname f = some x → ∃ fa fd ps, X.mg x = some (.ref fa) ∧ PySem.W.keepIn X.K (.ref fa) = true ∧ Binds X.K fd ps [] ∧ (∀ q ∈ T.kws f, KB X.K fd ps q) ∧ FnG X.prog X.w X.K X.mg X.base (2 * k) fa fd ps (spF X.K o f)
  fld : ∀ c f, (c, f) ∈ T.flds → ∃ C, ClsAt X.K c C ∧ Cls X.K C ∧ NoAttr X.K C f
  mkr : ∀ f x, T.mkr f = some x → ∃ C fa fd ps spI, X.mg x = some (.ref C) ∧ Mk X.K C fa ∧ Binds X.K fd ps [] ∧ FnG X.prog X.w X.K X.mg X.base (2 * k) fa fd ps spI ∧ MkSp X.K o f C spI
  lam : ∀ x, C.lm = some x → LamOk X.K X.base X.mg X.env.qual X.env.code x
  th : xc.th ≠ none → C.th = true
  tp : C.tp = true → X.ex = [] ∧ X.stack = X.env :: X.outer ∧ X.env.frame = some X.env.locals
  cl : C.tp = true → ∀ t, xc.th = some t → ClIn T t X.fs X.H_0 X.s_0.heap
  lamg : ∀ n ps b sc, T.lamOk n ps b sc = true → LamG X.prog X.w X.K X.mg X.base (2 * k) ps b sc (T.lamC n) (spF X.K o n)
  thk : ∀ f x, T.thk f = some x → ∃ fa fd ps, X.mg x = some (.ref fa) ∧ PySem.W.keepIn X.K (.ref fa) = true ∧ Binds X.K fd ps [] ∧ FnT T X.prog X.w X.K X.mg X.base (2 * k) fa fd ps (spT X.K o f)
  prp : ∀ f c n, T.prp f = some (c, n) → ∃ C p fa fd ps, ClsAt X.K c C ∧ Cls X.K C ∧ PropOf X.K C n p fa ∧ Binds X.K fd ps [] ∧ FnG X.prog X.w X.K X.mg X.base (2 * k) fa fd ps (spF X.K o f)
  errs : ∀ c ∈ T.errs, (∃ C fI Dq, ErrAt X.K c C fI Dq ∧ X.mg (Str.ofString c) = some (.ref C) ∧ ErrFn X.prog X.K fI Dq) ∧ IsX X.K c
  mth : ∀ f c m, T.mth f = some (c, m) → ∃ C fa fd ps, ClsAt X.K c C ∧ Cls X.K C ∧ Meth X.K C m fa ∧ Binds X.K fd ps [] ∧ FnG X.prog X.w X.K X.mg X.base (2 * k) fa fd ps (spF X.K o f)
section
variable {T : Tab} {xc : XcT} {o : Orc} {W : WX} {k : Nat} {C : SC} {X : Cx}
theorem and4 {a b c d : Bool} (h : (a && b && c && d) = true) : a = true ∧ b = true ∧ c = true ∧ d = true := by
  simp only [Bool.and_eq_true] at h
  exact ⟨h.1.1.1, h.1.1.2, h.1.2, h.2⟩
theorem and3 {a b c : Bool} (h : (a && b && c) = true) : a = true ∧ b = true ∧ c = true := by
  simp only [Bool.and_eq_true] at h
  exact ⟨h.1.1, h.1.2, h.2⟩
theorem and2 {a b : Bool} (h : (a && b) = true) : a = true ∧ b = true := by
  simp only [Bool.and_eq_true] at h
  exact h
theorem plain_dbg {x : Str} (h : plainName x = true) : (x == ("__debug__" : Str)) = false ∧ (x == ("__classdict__" : Str)) = false ∧ x ≠ "__name__" := by
  unfold plainName at h
  obtain ⟨h1, h2, h3⟩ := and3 h
  refine ⟨by simpa using h1, by simpa using h2, fun e => ?_⟩
  rw [e] at h3
  simp at h3
/-- a name that is left to the built-ins -/
theorem blt_ok (G : Good T xc o W k C X) {x y : Str} (h : bltB T C x y = true) : x = y ∧ Gl X y ∧ X.mg y = none := by
  unfold bltB isKind at h
  obtain ⟨h1, h2, h3⟩ := and3 h
  have e := of_decide_eq_true h1
  subst e
  refine ⟨rfl, ?_, G.free x (memS_mem h3)⟩
  show X.env.scope.names.lookup x = some .globalImplicit
  rw [G.sc]
  exact of_decide_eq_true h2
/-! ### how a piece that gives a value at once is read -/
/-- a reading with a value, by its end -/
theorem fin_val {K : PySem.W.Frag} {φ : Fz} {μ : List Addr} {H : Hp} {σ : St} {d : D} {s : Sto} {Q : V → Hp → Prop} {v : V} (h : Fin K W (relP K) φ μ H σ (okv d s) Q) (rs : RelS K φ μ H s) (rd : RelD K φ μ H d v) : Q v H := h φ μ H v Le.refl rs rd
theorem fin_ofOv {K : PySem.W.Frag} {φ : Fz} {μ : List Addr} {H : Hp} {σ : St} {d : Option D} {s : Sto} {Q : V → Hp → Prop} (h : Fin K W (relP K) φ μ H σ (ofOv d s) Q) : ∃ x, d = some x ∧ Fin K W (relP K) φ μ H σ (okv x s) Q := by
  cases d with
  | some x => exact ⟨x, rfl, h⟩
  | none => exact h.elim
/-- one value, then the rest -/
theorem seqv {K : PySem.W.Frag} {e : E} {σ : St} {H : Hp} {φ : Fz} {μ : List Addr} {env : Env} {s : Sto} {γ δ : Type} {rel2 : Rl γ δ} {f : D → Sto → R γ} {Q : δ → Hp → Prop} {Q1 : V → Hp → Prop} (rs : RelS K φ μ H s) (re : RelE xc K φ μ H env σ)
    (h : Fin K W rel2 φ μ H σ ((ev o e env s).bindv f) Q)
    (k : ∀ d s' φ' μ' H' v, Le K φ μ H φ' μ' H' → RelS K φ' μ' H' s' → RelE xc K φ' μ' H' env σ → RelD K φ' μ' H' d v → Fin K W rel2 φ' μ' H' σ (f d s') Q → Q1 v H') : rdE K xc o W e σ H Q1 :=
  ⟨φ, μ, env, s, rs, re, Fin.bind (r := evv o e env s) h fun d s' φ' μ' H' v l rs' rd h' => k d s' φ' μ' H' v l rs' (re.up l) rd h'⟩
theorem s_var {m : Md} {i : Nat} {e : Expr} (G : Good T xc o W k C X) (h : mtE T m C (.var i) e = true) : PE X e (rdP X.K xc o W (.var i)) := by
  unfold mtE at h
  cases e <;> first | cases h | skip
  rename_i x pos
  obtain ⟨h1, h2, h3, h4⟩ := and4 h
  obtain ⟨d1, d2, _⟩ := plain_dbg h3
  have n0 : xc.th ≠ none → i ≠ 0 := fun z => by
    have := G.th z
    rw [this] at h4
    exact of_decide_eq_true (by simpa using h4)
  refine PE.imp (pe_var (i := i) (by rw [G.N]; exact of_decide_eq_true h1) (by rw [G.sc]; exact visB_ok h2) d1 d2) fun σ H Q => ?_
  rintro ⟨φ, μ, env, s, rs, re, h⟩
  simp only [ev] at h
  cases q : env[i]? with
  | none => simp only [q] at h; exact h.elim
  | some od =>
    cases od with
    | none => simp only [q] at h; exact h.elim
    | some d =>
      simp only [q] at h
      obtain ⟨v, e1, e2⟩ := re.at_ i d q n0
      exact ⟨v, e1, fin_val h rs e2⟩
theorem s_glo {m : Md} {d : D} {e : Expr} (G : Good T xc o W k C X) (h : mtE T m C (.glo d) e = true) : PE X e (rdP X.K xc o W (.glo d)) := by
  unfold mtE at h
  cases e <;> first | cases h | skip
  rename_i x pos
  obtain ⟨h1, h2, h3⟩ := and3 h
  obtain ⟨p, hp, h4⟩ := List.any_eq_true.mp h3
  obtain ⟨h5, h6⟩ := and2 h4
  have e1 := of_decide_eq_true h5
  have e2 := D.same_eq h6
  obtain ⟨u, v, g1, g2, g3⟩ := G.glo p hp
  have hgl : Gl X x := by
    show X.env.scope.names.lookup x = some .globalImplicit
    rw [G.sc]
    exact of_decide_eq_true h1
  refine PE.imp (pe_glob hgl (by rw [← e1]; exact g1) g2 (plain_dbg h2).1) fun σ H Q => ?_
  rintro ⟨φ, μ, env, s, rs, re, h⟩
  simp only [ev] at h
  exact fin_val h rs (e2 ▸ g3 φ μ H)
theorem s_con {m : Md} {d : D} {e : Expr} (h : mtE T m C (.con d) e = true) : PE X e (rdP X.K xc o W (.con d)) := by
  unfold mtE at h
  cases e <;> first | cases h | skip
  rename_i c j pos
  have fin : ∀ v, (∀ φ μ H, RelD X.K φ μ H d v) → PE X (.Constant c j pos) (tC v) → PE X (.Constant c j pos) (rdP X.K xc o W (.con d)) := fun v hv hp => PE.imp hp fun σ H Q ⟨φ, μ, env, s, rs, re, h⟩ => by
    simp only [ev] at h
    exact fin_val h rs (hv φ μ H)
  cases d <;> cases c <;> first | cases h | skip
  · exact fin .non (fun _ _ _ => mk_non) pe_non
  · rename_i a b
    have e := of_decide_eq_true h
    subst e
    exact fin (.bl a) (fun _ _ _ => mk_bl) pe_bl
  · rename_i a b
    have e := of_decide_eq_true h
    subst e
    exact fin (.int a) (fun _ _ _ => mk_int) pe_int
  · rename_i a b
    have e := of_decide_eq_true h
    subst e
    exact fin (.str a) (fun _ _ _ => mk_str) pe_str
/-! ### operators -/
theorem s_bin {m : Md} {op : Op} {a b : E} {e : Expr} (ia : ∀ l, mtE T .v C a l = true → PE X l (rdP X.K xc o W a)) (ib : ∀ l, mtE T .v C b l = true → PE X l (rdP X.K xc o W b)) (h : mtE T m C (.bin op a b) e = true) : PE X e (rdP X.K xc o W (.bin op a b)) := by
  unfold mtE at h
  cases e <;> first | cases h | skip
  rename_i l q r pos
  obtain ⟨h1, h2, h3⟩ := and3 h
  have e1 := opIs_eq h1
  subst e1
  refine PE.imp (pe_op (op_bin op) (to_E (ia l h2)) (to_E (ib r h3))) fun σ H Q => ?_
  rintro ⟨φ, μ, env, s, rs, re, h⟩
  simp only [ev] at h
  refine seqv rs re h fun x s1 φ1 μ1 H1 v l1 rs1 re1 rd1 h1 => seqv rs1 re1 h1 fun y s2 φ2 μ2 H2 u l2 rs2 re2 rd2 h2 => ?_
  cases q : binR op x y s2 with
  | none => rw [q] at h2; exact h2.elim
  | some p =>
    rw [q] at h2
    exact ⟨φ2, μ2, s2, x, y, p, rs2, rd1.up l2, rd2, q, fun φ' μ' H' w l' rs' rp => h2 φ' μ' H' w l' rs' rp⟩
theorem s_neg {m : Md} {a : E} {e : Expr} (ia : ∀ l, mtE T .v C a l = true → PE X l (rdP X.K xc o W a)) (h : mtE T m C (.neg a) e = true) : PE X e (rdP X.K xc o W (.neg a)) := by
  unfold mtE at h
  cases e <;> first | cases h | skip
  rename_i q l pos
  cases q <;> first | cases h | skip
  obtain ⟨_, h2⟩ := and2 h
  refine PE.imp (pe_un un_neg (to_E (ia l h2))) fun σ H Q => ?_
  rintro ⟨φ, μ, env, s, rs, re, h⟩
  simp only [ev] at h
  refine seqv rs re h fun x s1 φ1 μ1 H1 v l1 rs1 re1 rd1 h1 => ?_
  cases x <;> first | exact h1.elim | skip
  rename_i i
  exact ⟨i, relD_int rd1, fin_val h1 rs1 mk_int⟩
/-! ### truth -/
/-- is it one of them -/
inductive EsHas : Es → E → Prop where
  | head {e : E} {r : Es} : EsHas (.cons e r) e
  | tail {e a : E} {r : Es} (h : EsHas r e) : EsHas (.cons a r) e
theorem PW.imp {X : Cx} {e : Expr} {t t' : TT} (h : PW X e t) (i : ∀ σ H Q, t' σ H Q → t σ H Q) : PW X e t' := ⟨fun w pins s σ H Q I q => h.run w pins s σ H Q I (i σ H Q q)⟩
theorem emp_rel {K : PySem.W.Frag} {φ : Fz} {μ : List Addr} {H : Hp} {ds : List D} {vs : List V} (r : RelL K φ μ H ds vs) : ds.isEmpty = vs.isEmpty := by
  cases ds with
  | nil => rw [r.of_nil]; rfl
  | cons d ds => obtain ⟨v, q, rfl, _⟩ := r.of_cons; rfl
theorem truth_ok {K : PySem.W.Frag} {φ : Fz} {μ : List Addr} {H : Hp} {d : D} {v : V} {s : Sto} {b : Bool} (rs : RelS K φ μ H s) (rd : RelD K φ μ H d v) (h : truth d s = some b) : TruV K v H b := by
  have fin : ∀ q, sq d s = some q → b = !q.2.isEmpty → TruV K v H b := fun q hq e => by
    obtain ⟨a, vs, rfl, h1, h2⟩ := sq_rel rs rd hq
    rw [emp_rel h2] at e
    unfold SqA at h1
    split at h1
    · exact .inr (.inl ⟨vs, h1, e⟩)
    · exact .inl ⟨vs, h1, e⟩
  cases d with
  | non => cases relD_non rd; cases h; rfl
  | bl b => cases relD_bl rd; cases h; rfl
  | int i => cases relD_int rd; cases h; rfl
  | str x => cases h
  | tup xs => cases h; exact fin _ rfl rfl
  | flst xs => cases h; exact fin _ rfl rfl
  | loc n =>
    have h' : (sq (.loc n) s).map (fun q => !q.2.isEmpty) = some b := h
    obtain ⟨q, e1, e2⟩ := Option.map_eq_some_iff.mp h'
    exact fin q e1 e2.symm
  | fdk _ _ => cases h
  | fins _ _ _ => cases h
  | exc _ _ => cases h
  | clo _ _ => cases h
theorem s_not {m : Md} {a : E} {e : Expr} (ia : ∀ l, mtE T .v C a l = true → PE X l (rdP X.K xc o W a)) (h : mtE T .v C (.not a) e = true) : PE X e (rdP X.K xc o W (.not a)) := by
  unfold mtE at h
  cases e <;> first | cases h | skip
  rename_i q l pos
  cases q <;> first | cases h | skip
  obtain ⟨_, h2⟩ := and2 h
  refine PE.imp (pe_notT (to_E (ia l h2))) fun σ H Q => ?_
  rintro ⟨φ, μ, env, s, rs, re, h⟩
  simp only [ev] at h
  refine seqv rs re h fun x s1 φ1 μ1 H1 v l1 rs1 re1 rd1 h1 => ?_
  cases q : truth x s1 with
  | none => simp only [q] at h1; exact h1.elim
  | some b =>
    simp only [q, R.ofO_some, R.bind_ok] at h1
    exact ⟨b, truth_ok rs1 rd1 q, fin_val h1 rs1 mk_bl⟩
/-- a plain expression as a test -/
theorem to_T {e : E} {x : Expr} (hp : plainTest x = true) (h : PE X x (rdP X.K xc o W e)) : PT X x (rdT X.K xc o W e) := by
  refine PT.imp (pt_truth (to_E h) fun _ => plain_true hp) fun σ H Q => ?_
  rintro ⟨φ, μ, env, s, rs, re, h⟩
  refine seqv rs re h fun d s1 φ1 μ1 H1 v l1 rs1 re1 rd1 h1 => ?_
  obtain ⟨b, e, h2⟩ := h1.ofO
  exact ⟨b, truth_ok rs1 rd1 e, h2.here rs1 rfl⟩
theorem t_not {a : E} {e : Expr} (ia : ∀ l, mtE T .t C a l = true → PT X l (rdT X.K xc o W a)) (h : mtE T .t C (.not a) e = true) : PT X e (rdT X.K xc o W (.not a)) := by
  unfold mtE at h
  cases e <;> first | cases h | skip
  rename_i q l pos
  cases q <;> first | cases h | skip
  obtain ⟨_, h2⟩ := and2 h
  refine PT.imp (pt_not (ia l h2)) fun σ H Q => ?_
  rintro ⟨φ, μ, env, s, rs, re, h⟩
  rw [tst_not] at h
  exact ⟨φ, μ, env, s, rs, re, Fin.bind h fun b s' φ' μ' H' c l rs' e h' => by
    cases e
    exact h'.here rs' rfl⟩
/-! ### and, or -/
theorem s_and : ∀ {es : Es} {ls : List Expr} {pos : Pos}, (∀ e l, EsHas es e → mtE T .v C e l = true → PE X l (rdP X.K xc o W e)) → mtB T .v C es ls = true → PE X (.BoolOp .And ls pos) (rdP X.K xc o W (.and es))
  | .nil, _, _, _, h => by unfold mtB at h; cases h
  | .cons a .nil, [], _, _, h => by unfold mtB at h; cases h
  | .cons a .nil, l :: m :: ls, _, _, h => by unfold mtB at h; cases h
  | .cons a .nil, [l], pos, ih, h => by
    unfold mtB at h
    refine PE.imp (pe_one (ih a l .head h)) fun σ H Q => ?_
    rintro ⟨φ, μ, env, s, rs, re, h⟩
    exact ⟨φ, μ, env, s, rs, re, by simp only [ev] at h; rw [evAnd] at h; exact h⟩
  | .cons a (.cons b r), [], _, _, h => by unfold mtB at h; cases h
  | .cons a (.cons b r), [l], _, _, h => by unfold mtB at h; cases h
  | .cons a (.cons b r), l :: m :: ls, pos, ih, h => by
    unfold mtB at h
    obtain ⟨h1, h2⟩ := and2 h
    have hr := s_and (es := .cons b r) (ls := m :: ls) (pos := pos) (fun e l he hm => ih e l (.tail he) hm) h2
    refine PE.imp (pe_andT (to_E (ih a l .head h1)) hr) fun σ H Q => ?_
    rintro ⟨φ, μ, env, s, rs, re, h⟩
    simp only [ev] at h
    rw [evAnd] at h
    refine seqv rs re h fun x s1 φ1 μ1 H1 v l1 rs1 re1 rd1 h1 => ?_
    cases q : truth x s1 with
    | none => simp only [q] at h1; exact h1.elim
    | some c =>
      refine ⟨c, truth_ok rs1 rd1 q, ?_⟩
      cases c with
      | true =>
        simp only [q] at h1
        rw [if_pos rfl]
        exact ⟨φ1, μ1, env, s1, rs1, re1, by simp only [ev]; exact h1⟩
      | false =>
        simp only [q] at h1
        rw [if_neg Bool.false_ne_true]
        exact fin_val h1 rs1 rd1
theorem s_or : ∀ {es : Es} {ls : List Expr} {pos : Pos}, (∀ e l, EsHas es e → mtE T .v C e l = true → PE X l (rdP X.K xc o W e)) → mtB T .v C es ls = true → PE X (.BoolOp .Or ls pos) (rdP X.K xc o W (.or es))
  | .nil, _, _, _, h => by unfold mtB at h; cases h
  | .cons a .nil, [], _, _, h => by unfold mtB at h; cases h
  | .cons a .nil, l :: m :: ls, _, _, h => by unfold mtB at h; cases h
  | .cons a .nil, [l], pos, ih, h => by
    unfold mtB at h
    refine PE.imp (pe_one (ih a l .head h)) fun σ H Q => ?_
    rintro ⟨φ, μ, env, s, rs, re, h⟩
    exact ⟨φ, μ, env, s, rs, re, by simp only [ev] at h; rw [evOr] at h; exact h⟩
  | .cons a (.cons b r), [], _, _, h => by unfold mtB at h; cases h
  | .cons a (.cons b r), [l], _, _, h => by unfold mtB at h; cases h
  | .cons a (.cons b r), l :: m :: ls, pos, ih, h => by
    unfold mtB at h
    obtain ⟨h1, h2⟩ := and2 h
    have hr := s_or (es := .cons b r) (ls := m :: ls) (pos := pos) (fun e l he hm => ih e l (.tail he) hm) h2
    refine PE.imp (pe_orT (to_E (ih a l .head h1)) hr) fun σ H Q => ?_
    rintro ⟨φ, μ, env, s, rs, re, h⟩
    simp only [ev] at h
    rw [evOr] at h
    refine seqv rs re h fun x s1 φ1 μ1 H1 v l1 rs1 re1 rd1 h1 => ?_
    cases q : truth x s1 with
    | none => simp only [q] at h1; exact h1.elim
    | some c =>
      refine ⟨c, truth_ok rs1 rd1 q, ?_⟩
      cases c with
      | true =>
        simp only [q] at h1
        rw [if_pos rfl]
        exact fin_val h1 rs1 rd1
      | false =>
        simp only [q] at h1
        rw [if_neg Bool.false_ne_true]
        exact ⟨φ1, μ1, env, s1, rs1, re1, by simp only [ev]; exact h1⟩
theorem t_and : ∀ {es : Es} {ls : List Expr} {pos : Pos}, (∀ e l, EsHas es e → mtE T .t C e l = true → PT X l (rdT X.K xc o W e)) → mtB T .t C es ls = true → PW X (.BoolOp .And ls pos) (rdT X.K xc o W (.and es))
  | .nil, _, _, _, h => by unfold mtB at h; cases h
  | .cons a .nil, [], _, _, h => by unfold mtB at h; cases h
  | .cons a .nil, l :: m :: ls, _, _, h => by unfold mtB at h; cases h
  | .cons a .nil, [l], pos, ih, h => by
    unfold mtB at h
    refine PW.imp (pw_and1 (ih a l .head h)) fun σ H Q => ?_
    rintro ⟨φ, μ, env, s, rs, re, h⟩
    exact ⟨φ, μ, env, s, rs, re, by rw [tst_and1] at h; exact h⟩
  | .cons a (.cons b r), [], _, _, h => by unfold mtB at h; cases h
  | .cons a (.cons b r), [l], _, _, h => by unfold mtB at h; cases h
  | .cons a (.cons b r), l :: m :: ls, pos, ih, h => by
    unfold mtB at h
    obtain ⟨h1, h2⟩ := and2 h
    have hr := t_and (es := .cons b r) (ls := m :: ls) (pos := pos) (fun e l he hm => ih e l (.tail he) hm) h2
    refine PW.imp (pw_and (ih a l .head h1) hr) fun σ H Q => ?_
    rintro ⟨φ, μ, env, s, rs, re, h⟩
    rw [tst_and] at h
    refine ⟨φ, μ, env, s, rs, re, Fin.bind h fun b s' φ' μ' H' c l rs' e h' => ?_⟩
    cases e
    cases b with
    | true => rw [if_pos rfl] at h' ⊢; exact ⟨φ', μ', env, s', rs', re.up l, h'⟩
    | false => rw [if_neg Bool.false_ne_true] at h' ⊢; exact h'.here rs' rfl
theorem t_or : ∀ {es : Es} {ls : List Expr} {pos : Pos}, (∀ e l, EsHas es e → mtE T .t C e l = true → PT X l (rdT X.K xc o W e)) → mtB T .t C es ls = true → PW X (.BoolOp .Or ls pos) (rdT X.K xc o W (.or es))
  | .nil, _, _, _, h => by unfold mtB at h; cases h
  | .cons a .nil, [], _, _, h => by unfold mtB at h; cases h
  | .cons a .nil, l :: m :: ls, _, _, h => by unfold mtB at h; cases h
  | .cons a .nil, [l], pos, ih, h => by
    unfold mtB at h
    refine PW.imp (pw_or1 (ih a l .head h)) fun σ H Q => ?_
    rintro ⟨φ, μ, env, s, rs, re, h⟩
    exact ⟨φ, μ, env, s, rs, re, by rw [tst_or1] at h; exact h⟩
  | .cons a (.cons b r), [], _, _, h => by unfold mtB at h; cases h
  | .cons a (.cons b r), [l], _, _, h => by unfold mtB at h; cases h
  | .cons a (.cons b r), l :: m :: ls, pos, ih, h => by
    unfold mtB at h
    obtain ⟨h1, h2⟩ := and2 h
    have hr := t_or (es := .cons b r) (ls := m :: ls) (pos := pos) (fun e l he hm => ih e l (.tail he) hm) h2
    refine PW.imp (pw_or (ih a l .head h1) hr) fun σ H Q => ?_
    rintro ⟨φ, μ, env, s, rs, re, h⟩
    rw [tst_or] at h
    refine ⟨φ, μ, env, s, rs, re, Fin.bind h fun b s' φ' μ' H' c l rs' e h' => ?_⟩
    cases e
    cases b with
    | true => rw [if_pos rfl] at h' ⊢; exact h'.here rs' rfl
    | false => rw [if_neg Bool.false_ne_true] at h' ⊢; exact ⟨φ', μ', env, s', rs', re.up l, h'⟩
end
end Mi

/-! # A star over the values of a dict; a name bound to a dict comprehension -/
namespace Mi
open PySem PySem.Spec PyProof.Rows L2
section
variable {X : Cx}
/-- the values of a dict, walked by a view that is collected -/
theorem vals_paired {P : Program} {w : World} {kvs : List (Key × V)} {vs : List (Key × Value)} (rel : KV kvs vs) : ∀ {us : List Value}, us.length = vs.length → (∀ (j : Nat) v, us[j]? = some v → ∃ k, vs[j]? = some (k, v)) → Vals (kvs.map (·.2)) us := by
  intro us hl hv
  have hl2 := rel.length
  refine vals_of_at (by rw [List.length_map]; omega) fun j x v h1 h2 => ?_
  obtain ⟨k, hk⟩ := hv j v h2
  rw [List.getElem?_map] at h1
  obtain ⟨q, hq, rfl⟩ := Option.map_eq_some_iff.mp h1
  obtain ⟨y, hy, r1, r2⟩ := L2.DX.pget rel hk
  rw [hq] at hy
  cases hy
  exact r2
theorem pa_starV {o : Expr} {es : List Expr} {td : TE} {t : TA} {p apos cpos : Pos} (hc : X.calm = true) (he : PE X o td) (hr : PA X es t) (hbase : attributeBase o "values" X.env (eval o X.env) = eval o X.env) (hline : (apos.endLine == cpos.line) = true) :
    PA X (.Starred (.Call (.Attribute o "values" apos) [] [] cpos) p :: es) (fun σ H Q => td σ H fun x H1 => ∃ d kvs, x = .ref d ∧ Rd H1 d (.dK kvs) ∧ t σ H1 fun ys H2 => Q (kvs.map (·.2) ++ ys) H2) := by
  refine ⟨fun pos pins s σ H Q I h => ?_⟩
  refine PySem.W.items_star ?_ rfl
  refine wpAny_Call_method (T := "dict") (id := "dict.values") hbase rfl hline F.plainAttrs_dict F.slot_dict_values F.type_dict_values (thn (he.run pins s σ H _ I h) fun u s1 ⟨x, H1, I1, rx, d, kvs, ex, hd, q⟩ => ?_)
  subst ex
  obtain rfl : u = Value.ref d := rx
  obtain ⟨z, lo, vs, rel, dd⟩ := dk_rd I1.hok hd
  obtain ⟨ep, hat⟩ := dd.dictAt
  refine ⟨hat.dictOf.typeIs, hat.dictOf.mapOf.noDict, ?_⟩
  have I2 : Inv X pins σ H1 { s1 with heap := s1.heap.push { cls := .type "dict_values", data := .fields #[.ref d] } } := I1.kept (t' := s1.toks) fun b ob q => Heap.get?_push_of_some _ q
  have view : (s1.heap.push { cls := .type "dict_values", data := .fields #[.ref d] }).IsValuesView s1.heap.objs.size d := ⟨_, Heap.get?_push_size _ rfl, rfl, rfl⟩
  have fin : PySem.W.StarOf (model X.prog X.w) X.A X.xe (.ref s1.heap.objs.size) (fun here s₂ => wpAny (model X.prog X.w) X.A (spliced (backTo pos (starEach es X.env))) (fun vs s₃ => (fun us s' => ∃ vs H', Inv X pins σ H' s' ∧ Vals vs us ∧ Q vs H') (here ++ vs) s₃) X.xe s₂) { s1 with heap := s1.heap.push { cls := .type "dict_values", data := .fields #[.ref d] } } := by
    have zc : wpAny (model X.prog X.w) X.A (collect (.ref s1.heap.objs.size)) (fun here s₂ => wpAny (model X.prog X.w) X.A (spliced (backTo pos (starEach es X.env))) (fun vs s₃ => (fun us s' => ∃ vs H', Inv X pins σ H' s' ∧ Vals vs us ∧ Q vs H') (here ++ vs) s₃) X.xe s₂) X.xe { s1 with heap := s1.heap.push { cls := .type "dict_values", data := .fields #[.ref d] } } := by
      refine PySem.W.kdu_collect (PySem.W.kdl_values (knd := mixKind X.prog X.w) (kvs := vs) (ep := ep)) (I2.ok.hd hc) ⟨view, hat.push _⟩ (by rw [← rel.length]; exact z) fun h' tk acc hk hacc => ?_
      have I3 := I2.kept (t' := tk) hk
      have rv : Vals (kvs.map (·.2)) acc.toList := vals_paired (P := X.prog) (w := X.w) rel (by rw [Array.length_toList]; exact hacc.1) fun j v e => hacc.2 j v (by rw [← Array.getElem?_toList]; exact e)
      exact thn (hr.run pos pins _ σ H1 _ I3 q) fun ws s3 ⟨vs', H3, I4, r3, q3⟩ => ⟨kvs.map (·.2) ++ vs', H3, I4, rv.append r3, q3⟩
    unfold PySem.W.StarOf notIterableAtAll
    exact wpAny_bind (wpAny_specialOf view.typeIs PySem.F.slot_dict_values_iter.lookup (wpAny_pure ⟨rfl, zc⟩))
  show wpAny _ _ (callWith cpos (.builtin "dict.values") [.ref d] [] []) _ X.xe s1
  exact method_meetsIn F.slot_dict_values F.entry_dict_values rfl (PySem.evalArgs_none ⟨rfl, hat.dictOf.typeIs, F.args_dict_values_1 _, _, meets_dict_values (mixKind X.prog X.w) d lo, ⟨vs, hat.dictOf⟩, fin⟩)
theorem swD_true {kx vx : Expr} {gs : List Comprehension} {scope : Scope} {pos py : Pos} {y : Str} {l : Nat} {env : PySem.Env} (hk : env.scope.kind = .function) (hy : env.scope.names.lookup y = some .local) (hl : (py.line == pos.line) = true)
    (ha : (scope.names.any fun (n, k) => n == y && (k == .local || k == .cell)) = false) : swapsWith (.DictComp kx vx gs scope pos) (some (.Name y py)) l env = pure true := by
  have ky : env.kindOf y = some .local := hy
  have hb : env.blockKind = .function := by unfold Env.blockKind; rw [hk]; rfl
  unfold swapsWith
  simp only [hb, ky, ha, Expr.pos, hl]
  rfl
theorem ps_setDc {i : Nat} {y : Str} {py : Pos} {kx vx tg iter : Expr} {ifs : List Expr} {scope : Scope} {own : List (Str × Nat)} {pos spos : Pos} {wi : TI} {g : TG} {tt : TT} {tk tv : TE} (hc : X.calm = true) (hN : X.N.Nodup) (hy : X.N[i]? = some y) (hyl : X.env.scope.names.lookup y = some .local)
    (hsw : swapsWith (.DictComp kx vx [⟨tg, iter, ifs, 0⟩] scope pos) (some (.Name y py)) spos.line X.env = pure true) (hi : PI X tg iter wi) (ok : BlkOk X.N X.env.scope scope own)
    (hg : ∀ (s : Shared) (H : Hp) (C : Addr) (cl : List (Str × Addr)) (fp : List Addr), PG (X.blk s H scope (compEnvC scope cl C X.env) fp) tg g) (ht : ∀ (s : Shared) (H : Hp) (C : Addr) (cl : List (Str × Addr)) (fp : List Addr), PTs (X.blk s H scope (compEnvC scope cl C X.env) fp) ifs tt)
    (hk : ∀ (s : Shared) (H : Hp) (C : Addr) (cl : List (Str × Addr)) (fp : List Addr), PE (X.blk s H scope (compEnvC scope cl C X.env) fp) kx tk)
    (he : ∀ (s : Shared) (H : Hp) (C : Addr) (cl : List (Str × Addr)) (fp : List Addr), PE (X.blk s H scope (compEnvC scope cl C X.env) fp) vx tv) (hs : ∀ x, foldedSetIterable iter X.env x = pure x) :
    PS X (.Assign [.Name y py] (.DictComp kx vx [⟨tg, iter, ifs, 0⟩] scope pos) spos) (tAsg (tDc wi g tt tk tv (own.map (·.2))) (gName i)) := by
  refine ⟨fun pins s σ H D I h => ?_⟩
  rw [exec_Assign_Name_used _ _ _ _ hsw]
  refine wpAny_bind (wpAny_standAt (wpAny_bind ?_))
  show wpAny _ X.A (do let _ ← comprehension (.DictComp kx vx [⟨tg, iter, ifs, 0⟩] scope pos) scope X.env (firstIterPos [⟨tg, iter, ifs, 0⟩] pos) newDict false (eval iter X.env) (some (assign (.Name y py) X.env))) _ _ s
  have h : tDc wi g tt tk tv (own.map (·.2)) σ H (fun x H1 => gName i x σ H1 D.nx) := h
  refine wpAny_bind (thn (dc_core (Qf := fun _ s' => SP X pins D .next s') hc hN I hi ok hg ht hk he hs h fun L C s' m H' I' q hn f => ?_) fun _ s' hq => wpAny_pure (wpAny_pure hq))
  show wpAny _ _ (assign (.Name y py) X.env (.ref L)) _ _ _
  refine wpAny_assign_Name (store_ok2 (v := V.ref L) I' hN hy (.inl hyl) rfl (fun s2 I2 ⟨a, sb, ha⟩ => ?_) (.inr hyl))
  obtain ⟨f0, f1, f2, f3, f4, f5⟩ := f
  have haC : C ≠ a := by
    rcases ha with z | z
    · rw [z]; exact f1
    · exact fun e => f4 y a z e.symm
  refine ⟨m, hn.sameBut sb haC, fun h3 sb3 => ?_⟩
  exact ⟨_, H', I2.turned (t' := s2.toks) (fun b o hb e => (sb3.2 b hb).trans e) f0 f1 f3 f4 f5, q⟩
end
end Mi

/-! # More rules -/
namespace Mi
open PySem L2
section
variable {T : Tab} {xc : XcT} {o : Orc} {W : WX} {k : Nat} {C : SC} {X : Cx}
/-- what the evaluator's functions wish of parts that are matched -/
abbrev IhE (T : Tab) (xc : XcT) (o : Orc) (W : WX) (C : SC) (X : Cx) (a : E) : Prop := ∀ l, mtE T .v C a l = true → PE X l (rdP X.K xc o W a)
theorem s_cmp {m : Md} {c : Cm} {a b : E} {e : Expr} (G : Good T xc o W k C X) (ia : IhE T xc o W C X a) (ib : IhE T xc o W C X b) (h : mtE T m C (.cmp c a b) e = true) :
    PE X e (rdP X.K xc o W (.cmp c a b)) ∧ PT X e (rdT X.K xc o W (.cmp c a b)) := by
  simp only [mtE] at h
  split at h <;> first | cases h | skip
  rename_i l p r pos
  obtain ⟨h1, h2, h3, h4⟩ := and4 h
  have e1 := cmIs_eq h1
  subst e1
  have core : ∀ {σ : St} {H : Hp} {φ : Fz} {μ : List Addr} {env : Env} {s : Sto} {γ δ : Type} {rel : Rl γ δ} {f : Bool → Sto → R γ} {Q : δ → Hp → Prop} {Q1 : V → Hp → Prop}, RelS X.K φ μ H s → RelE xc X.K φ μ H env σ →
      Fin X.K W rel φ μ H σ ((ev o a env s).bindv fun x s1 => (ev o b env s1).bindv fun y s2 => (R.ofO (cmpop c x y s2) s2).bind f) Q →
      (∀ t s' φ' μ' H', RelS X.K φ' μ' H' s' → Fin X.K W rel φ' μ' H' σ (f t s') Q → Q1 (.bl t) H') → tOp (rCm X.K c) (rdE X.K xc o W a) (rdE X.K xc o W b) σ H Q1 := fun rs re h fin => by
    refine seqv rs re h fun x s1 φ1 μ1 H1 v l1 rs1 re1 rd1 h1 => seqv rs1 re1 h1 fun y s2 φ2 μ2 H2 u l2 rs2 re2 rd2 h2 => ?_
    cases q : cmpop c x y s2 with
    | none => simp only [q] at h2; exact h2.elim
    | some t =>
      simp only [q, R.ofO_some, R.bind_ok] at h2
      exact ⟨φ2, μ2, s2, x, y, t, rs2, rd1.up l2, rd2, q, fin t s2 φ2 μ2 H2 rs2 h2⟩
  constructor
  · refine PE.imp (pe_cmpR (op_cm G.room c) (to_E (ia l h2)) (to_E (ib r h3)) (cm_behind h4)) fun σ H Q => ?_
    rintro ⟨φ, μ, env, s, rs, re, h⟩
    simp only [ev] at h
    exact core rs re h fun t s' φ' μ' H' rs' h' => fin_val h' rs' mk_bl
  · refine PT.imp (pt_cmpR (op_cm G.room c) (to_E (ia l h2)) (to_E (ib r h3)) (cm_behind h4)) fun σ H Q => ?_
    rintro ⟨φ, μ, env, s, rs, re, h⟩
    have e2 : tst o (.cmp c a b) env s = (ev o a env s).bindv fun x s1 => (ev o b env s1).bindv fun y s2 => (R.ofO (cmpop c x y s2) s2).bind fun t s3 => .ok t s3 := by
      unfold tst
      simp only [ev, R.bindv]
      cases (ev o a env s).bind lay with
      | no => rfl
      | ex _ _ _ => rfl
      | ok x s1 =>
        simp only [R.bind_ok]
        cases (ev o b env s1).bind lay with
        | no => rfl
        | ex _ _ _ => rfl
        | ok y s2 =>
          simp only [R.bind_ok]
          cases cmpop c x y s2 <;> rfl
    rw [e2] at h
    exact core rs re h fun t s' φ' μ' H' rs' h' => ⟨t, rfl, h'.here rs' rfl⟩
theorem s_chn {m : Md} {c d : Cm} {a b g : E} {e : Expr} (G : Good T xc o W k C X) (ia : IhE T xc o W C X a) (ib : IhE T xc o W C X b) (ig : IhE T xc o W C X g) (h : mtE T m C (.chn c d a b g) e = true) :
    PE X e (rdP X.K xc o W (.chn c d a b g)) ∧ PT X e (rdT X.K xc o W (.chn c d a b g)) := by
  simp only [mtE] at h
  split at h <;> first | cases h | skip
  rename_i l p1 p2 q r pos
  simp only [Bool.and_eq_true] at h
  obtain ⟨⟨⟨⟨⟨h1, h2⟩, h3⟩, h4⟩, h5⟩, h6⟩ := h
  have e1 := cmIs_eq h1
  have e2 := cmIs_eq h2
  subst e1 e2
  have hm : lastMarks [cmO c, cmO d] [q, r] = false := cm_behind (c := d) (b := r) h6
  have core : ∀ {σ : St} {H : Hp} {φ : Fz} {μ : List Addr} {env : Env} {s : Sto} {γ δ : Type} {rel : Rl γ δ} {f : Bool → Sto → R γ} {Q : δ → Hp → Prop} {Q1 : V → Hp → Prop}, RelS X.K φ μ H s → RelE xc X.K φ μ H env σ →
      Fin X.K W rel φ μ H σ ((ev o a env s).bindv fun x s1 => (ev o b env s1).bindv fun y s2 => match cmpop c x y s2 with
        | some true => (ev o g env s2).bindv fun z s3 => (R.ofO (cmpop d y z s3) s3).bind f
        | some false => f false s2
        | none => .no) Q →
      (∀ t s' φ' μ' H', RelS X.K φ' μ' H' s' → Fin X.K W rel φ' μ' H' σ (f t s') Q → Q1 (.bl t) H') → tChain (rCm X.K c) (rCm X.K d) (rdE X.K xc o W a) (rdE X.K xc o W b) (rdE X.K xc o W g) σ H Q1 := fun rs re h fin => by
    refine seqv rs re h fun x s1 φ1 μ1 H1 v l1 rs1 re1 rd1 h1 => seqv rs1 re1 h1 fun y s2 φ2 μ2 H2 u l2 rs2 re2 rd2 h2 => ?_
    cases q : cmpop c x y s2 with
    | none => simp only [q] at h2; exact h2.elim
    | some t =>
      refine ⟨φ2, μ2, s2, x, y, t, rs2, rd1.up l2, rd2, q, t, rfl, ?_⟩
      cases t with
      | false =>
        simp only [q] at h2
        rw [if_neg Bool.false_ne_true]
        exact fin false s2 φ2 μ2 H2 rs2 h2
      | true =>
        simp only [q] at h2
        rw [if_pos rfl]
        refine seqv rs2 re2 h2 fun z s3 φ3 μ3 H3 w l3 rs3 re3 rd3 h3 => ?_
        cases q2 : cmpop d y z s3 with
        | none => simp only [q2] at h3; exact h3.elim
        | some t =>
          simp only [q2, R.ofO_some, R.bind_ok] at h3
          exact ⟨φ3, μ3, s3, y, z, t, rs3, rd2.up l3, rd3, q2, fin t s3 φ3 μ3 H3 rs3 h3⟩
  constructor
  · refine PE.imp (pe_chain (op_cm G.room c) (op_cm G.room d) (to_E (ia l h3)) (to_E (ib q h4)) (to_E (ig r h5)) hm) fun σ H Q => ?_
    rintro ⟨φ, μ, env, s, rs, re, h⟩
    simp only [ev] at h
    exact core rs re h fun t s' φ' μ' H' rs' h' => fin_val h' rs' mk_bl
  · refine PT.imp (pt_chain (op_cm G.room c) (op_cm G.room d) (to_E (ia l h3)) (to_E (ib q h4)) (to_E (ig r h5)) hm) fun σ H Q => ?_
    rintro ⟨φ, μ, env, s, rs, re, h⟩
    have e2 : tst o (.chn c d a b g) env s = (ev o a env s).bindv fun x s1 => (ev o b env s1).bindv fun y s2 => match cmpop c x y s2 with
        | some true => (ev o g env s2).bindv fun z s3 => (R.ofO (cmpop d y z s3) s3).bind fun t s4 => .ok t s4
        | some false => .ok false s2
        | none => .no := by
      unfold tst
      simp only [ev, R.bindv]
      cases (ev o a env s).bind lay with
      | no => rfl
      | ex _ _ _ => rfl
      | ok x s1 =>
        simp only [R.bind_ok]
        cases (ev o b env s1).bind lay with
        | no => rfl
        | ex _ _ _ => rfl
        | ok y s2 =>
          simp only [R.bind_ok]
          cases cmpop c x y s2 with
          | none => rfl
          | some t =>
            cases t with
            | false => rfl
            | true =>
              simp only []
              cases (ev o g env s2).bind lay with
              | no => rfl
              | ex _ _ _ => rfl
              | ok z s3 =>
                simp only [R.bind_ok]
                cases cmpop d y z s3 <;> rfl
    rw [e2] at h
    exact core rs re h fun t s' φ' μ' H' rs' h' => ⟨t, rfl, h'.here rs' rfl⟩
theorem s_ite {m : Md} {c a b : E} {e : Expr} (ic : ∀ l, mtE T .t C c l = true → PT X l (rdT X.K xc o W c)) (ia : IhE T xc o W C X a) (ib : IhE T xc o W C X b) (h : mtE T m C (.ite c a b) e = true) : PE X e (rdP X.K xc o W (.ite c a b)) := by
  simp only [mtE] at h
  split at h <;> first | cases h | skip
  rename_i q l r pos
  obtain ⟨_, h2, h3, h4⟩ := and4 h
  refine PE.imp (pe_ifExp (ic q h2) (ia l h3) (ib r h4)) fun σ H Q => ?_
  rintro ⟨φ, μ, env, s, rs, re, h⟩
  have e2 : ev o (.ite c a b) env s = (tst o c env s).bind fun t s1 => if t = true then ev o a env s1 else ev o b env s1 := by
    unfold tst
    simp only [ev, R.bindv]
    cases (ev o c env s).bind lay with
    | no => rfl
    | ex _ _ _ => rfl
    | ok x s1 =>
      simp only [R.bind_ok]
      cases truth x s1 with
      | none => rfl
      | some t => cases t <;> rfl
  rw [e2] at h
  refine ⟨φ, μ, env, s, rs, re, Fin.bind h fun t s' φ' μ' H' c l rs' e h' => ?_⟩
  cases e
  cases t with
  | true => rw [if_pos rfl] at h' ⊢; exact ⟨φ', μ', env, s', rs', re.up l, h'⟩
  | false => rw [if_neg Bool.false_ne_true] at h' ⊢; exact ⟨φ', μ', env, s', rs', re.up l, h'⟩
/-! ### several -/
theorem s_es : ∀ {es : Es} {ls : List Expr}, (∀ e, EsHas es e → IhE T xc o W C X e) → mtEs T C es ls = true → PA X ls (rdA X.K xc o W es)
  | .nil, [], _, _ => PA.imp pa_nil fun σ H Q ⟨φ, μ, env, s, rs, re, h⟩ => by
    simp only [evs] at h
    exact h.here rs .nil
  | .nil, _ :: _, _, h => by unfold mtEs at h; cases h
  | .cons e r, [], _, h => by unfold mtEs at h; cases h
  | .cons e r, l :: ls, ih, h => by
    unfold mtEs at h
    obtain ⟨h1, h2, h3⟩ := and3 h
    have hr := s_es (es := r) (ls := ls) (fun e he => ih e (.tail he)) h3
    refine PA.imp (pa_cons (to_E (ih e .head l h1)) hr (star_cons h2)) fun σ H Q => ?_
    rintro ⟨φ, μ, env, s, rs, re, h⟩
    simp only [evs] at h
    refine seqv rs re h fun x s1 φ1 μ1 H1 v l1 rs1 re1 rd1 h1 => ⟨φ1, μ1, env, s1, rs1, re1, Fin.bind h1 fun ds s2 φ2 μ2 H2 vs l2 rs2 rl2 h2 => ?_⟩
    exact h2.here rs2 (.cons (rd1.up l2) rl2)
theorem mtEs_stars : ∀ {es : Es} {ls : List Expr}, mtEs T C es ls = true → noStars ls = true
  | .nil, [], _ => rfl
  | .nil, _ :: _, h => by unfold mtEs at h; cases h
  | .cons e r, [], h => by unfold mtEs at h; cases h
  | .cons e r, l :: ls, h => by
    unfold mtEs at h
    obtain ⟨h1, h2, h3⟩ := and3 h
    show (notStar l && noStars ls) = true
    rw [h2, mtEs_stars h3]
    rfl
theorem le_line {n : Nat} (h : n ≤ sizeMax) : n ≤ sizeLine := by rw [sizeLine_eq]; exact h
theorem line_le {n : Nat} (h : n ≤ sizeLine) : n ≤ sizeMax := by rw [sizeLine_eq] at h; exact h
theorem s_tup {m : Md} {es : Es} {e : Expr} (ih : ∀ e, EsHas es e → IhE T xc o W C X e) (h : mtE T m C (.tup es) e = true) : PE X e (rdP X.K xc o W (.tup es)) := by
  simp only [mtE] at h
  split at h <;> first | cases h | skip
  refine PE.imp (pe_tup (s_es ih h)) fun σ H Q => ?_
  rintro ⟨φ, μ, env, s, rs, re, h⟩
  simp only [ev] at h
  refine ⟨φ, μ, env, s, rs, re, Fin.bind h fun ds s' φ' μ' H' vs l rs' rl h' => ?_⟩
  split at h'
  · rename_i c
    refine ⟨by rw [← rl.length]; exact le_line c, fun p hp => ?_⟩
    exact h' _ _ _ _ (Le.new hp rs'.here) (rs'.beside hp) (mk_tup (SqT.of upd_same) (rl.up (Le.new hp rs'.here)))
  · exact h'.elim
/-- a new list beside the store -/
theorem new_fin {K : PySem.W.Frag} {φ : Fz} {μ : List Addr} {H : Hp} {σ : St} {ds : List D} {s : Sto} {vs : List V} {Q : V → Hp → Prop} (h : Fin K W (relP K) φ μ H σ (.ok (.new ds) s) Q) (rs : RelS K φ μ H s) (rl : RelL K φ μ H ds vs) :
    ∀ p, H p = none → Q (.ref p) (upd H p (.lst vs)) := fun p hp => by
  refine h φ μ _ _ (Le.new hp rs.here) (rs.beside hp) ⟨p, vs, rfl, upd_same, fun b z => rs.here (b, p) z hp, fun z => rs.here_mu z hp, rl.up (Le.new hp rs.here)⟩
theorem s_lst {m : Md} {es : Es} {e : Expr} (ih : ∀ e, EsHas es e → IhE T xc o W C X e) (h : mtE T m C (.lst es) e = true) : PE X e (rdP X.K xc o W (.lst es)) := by
  simp only [mtE] at h
  split at h <;> first | cases h | skip
  refine PE.imp (pe_lst (s_es ih h)) fun σ H Q => ?_
  rintro ⟨φ, μ, env, s, rs, re, h⟩
  simp only [ev] at h
  refine ⟨φ, μ, env, s, rs, re, Fin.bind h fun ds s' φ' μ' H' vs l rs' rl h' => ?_⟩
  split at h'
  · rename_i c
    exact ⟨by rw [← rl.length]; exact le_line c, new_fin h' rs' rl⟩
  · exact h'.elim
theorem s_xs (hc : X.calm = true) : ∀ {ls : List Expr} {es : Es} {fs : List Nat}, (∀ e, EsHas es e → IhE T xc o W C X e) → mtXs T C fs es ls = true → PA X ls (fun σ H Q => ∃ φ μ env s, RelS X.K φ μ H s ∧ RelE xc X.K φ μ H env σ ∧ Fin X.K W (RelL X.K) φ μ H σ (evx o es fs env s) Q) := by
  intro ls
  induction ls with
  | nil =>
    intro es fs ih h
    cases es with
    | nil =>
      refine PA.imp pa_nil fun σ H Q => ?_
      rintro ⟨φ, μ, env, s, rs, re, h⟩
      simp only [evx] at h
      exact h.here rs .nil
    | cons e r => unfold mtXs at h; cases h
  | cons l ls ihl =>
    intro es fs ih h
    cases es with
    | nil => unfold mtXs at h; cases h
    | cons e r =>
      simp only [mtXs] at h
      rw [Bool.and_eq_true] at h
      obtain ⟨h1, h3⟩ := h
      have hr := ihl (es := r) (fs := fs.tail) (fun e he => ih e (.tail he)) h3
      split at h1
      · rename_i hf
        obtain ⟨k1, k2⟩ := and2 h1
        refine PA.imp (pa_cons (to_E (ih e .head l k1)) hr (star_cons k2)) fun σ H Q => ?_
        rintro ⟨φ, μ, env, s, rs, re, h⟩
        simp only [evx, hf] at h
        refine seqv rs re h fun x s1 φ1 μ1 H1 v l1 rs1 re1 rd1 h1 => ⟨φ1, μ1, env, s1, rs1, re1, Fin.bind h1 fun ds s2 φ2 μ2 H2 vs l2 rs2 rl2 h2 => ?_⟩
        exact h2.here rs2 (.cons (rd1.up l2) rl2)
      · rename_i hf
        split at h1 <;> first | (cases h1; done) | skip
        rename_i l' sp
        refine PA.imp (StX.pa_star (ih e .head l' h1) hr) fun σ H Q => ?_
        rintro ⟨φ, μ, env, s, rs, re, h⟩
        simp only [evx, hf] at h
        refine ⟨φ, μ, env, s, rs, re, ?_⟩
        have h' : Fin X.K W (RelL X.K) φ μ H σ ((ev o e env s).bind fun p s0 => (spr p s0).bind fun xs s1 => (evx o r fs.tail env s1).bind fun ds s2 => .ok (xs ++ ds) s2) Q := by
          revert h
          generalize ev o e env s = r0
          cases r0 <;> exact fun z => z
        refine Fin.bind h' fun p s1 φ1 μ1 H1 v l1 rs1 rl h1 => ?_
        have key : ∃ q : Bool × List D, sqP p s1 = some q ∧ spr p s1 = .ok q.2 s1 := by
          cases p with
          | val d =>
            cases z : sq d s1 with
            | none => simp only [spr, z, R.bind_no] at h1; exact h1.elim
            | some q => exact ⟨q, z, by simp only [spr, z]⟩
          | new xs => exact ⟨(false, xs), rfl, rfl⟩
          | rg xs => exact rl.elim
          | it xs => exact rl.elim
        obtain ⟨q, z, e2⟩ := key
        rw [e2] at h1
        simp only [R.bind_ok] at h1
        obtain ⟨p, vs, rfl, hq, rl⟩ := sqP_rel rs1 rl z
        refine ⟨p, vs, rfl, ?_, φ1, μ1, env, s1, rs1, re.up l1, Fin.bind h1 fun ds s2 φ2 μ2 H2 us l2 rs2 rl2 h2 => h2.here rs2 ((rl.up l2).append rl2)⟩
        unfold SqA at hq
        split at hq
        · exact .inl hq
        · exact .inr hq
      · rename_i hf0 hf1
        split at h1 <;> first | (cases h1; done) | skip
        rename_i ob name apos pos sp
        obtain ⟨k1, k2, k3, k4⟩ := and4 h1
        have e1 := of_decide_eq_true k1
        subst e1
        refine PA.imp (pa_starV hc (to_E (ih e .head ob k4)) hr (base_plain k2) k3) fun σ H Q => ?_
        rintro ⟨φ, μ, env, s, rs, re, h⟩
        have hx : evx o (.cons e r) fs env s = (ev o e env s).bindv fun x s1 => match dicOf x s1 with
            | some kvs => (evx o r fs.tail env s1).bind fun ds s2 => .ok (kvs.map (·.2) ++ ds) s2
            | none => .no := by
          rw [evx]
          split
          · rename_i z; exact (hf0 z).elim
          · rename_i z; exact (hf1 z).elim
          · rfl
        rw [hx] at h
        refine seqv rs re h fun x s1 φ1 μ1 H1 v l1 rs1 re1 rd1 h1 => ?_
        cases z : dicOf x s1 with
        | none => rw [z] at h1; exact h1.elim
        | some kvs =>
          rw [z] at h1
          obtain ⟨p, ws, rfl, g1, g2⟩ := dic_rel rs1 rd1 z
          exact ⟨p, ws, rfl, g1, φ1, μ1, env, s1, rs1, re1, Fin.bind h1 fun ds s2 φ2 μ2 H2 us l2 rs2 rl2 h2 => h2.here rs2 ((g2.2.up l2).append rl2)⟩
theorem s_tupx {m : Md} {fs : List Nat} {es : Es} {e : Expr} (hc : X.calm = true) (ih : ∀ e, EsHas es e → IhE T xc o W C X e) (h : mtE T m C (.tupx fs es) e = true) : PE X e (rdP X.K xc o W (.tupx fs es)) := by
  simp only [mtE] at h
  split at h <;> first | cases h | skip
  refine PE.imp (pe_tup (s_xs (xc := xc) (o := o) (W := W) hc ih h)) fun σ H Q => ?_
  rintro ⟨φ, μ, env, s, rs, re, h⟩
  simp only [ev] at h
  refine ⟨φ, μ, env, s, rs, re, Fin.bind h fun ds s' φ' μ' H' vs l rs' rl h' => ?_⟩
  split at h'
  · rename_i c
    refine ⟨by rw [← rl.length]; exact le_line c, fun p hp => ?_⟩
    exact h' _ _ _ _ (Le.new hp rs'.here) (rs'.beside hp) (mk_tup (SqT.of upd_same) (rl.up (Le.new hp rs'.here)))
  · exact h'.elim
/-- a new list beside the store -/
theorem s_lstx {m : Md} {fs : List Nat} {es : Es} {e : Expr} (hc : X.calm = true) (ih : ∀ e, EsHas es e → IhE T xc o W C X e) (h : mtE T m C (.lstx fs es) e = true) : PE X e (rdP X.K xc o W (.lstx fs es)) := by
  simp only [mtE] at h
  split at h <;> first | cases h | skip
  refine PE.imp (pe_lst (s_xs (xc := xc) (o := o) (W := W) hc ih h)) fun σ H Q => ?_
  rintro ⟨φ, μ, env, s, rs, re, h⟩
  simp only [ev] at h
  refine ⟨φ, μ, env, s, rs, re, Fin.bind h fun ds s' φ' μ' H' vs l rs' rl h' => ?_⟩
  split at h'
  · rename_i c
    exact ⟨by rw [← rl.length]; exact le_line c, new_fin h' rs' rl⟩
  · exact h'.elim
end
end Mi

/-! # Subscripts, built-ins -/
namespace Mi
open PySem L2
section
variable {T : Tab} {xc : XcT} {o : Orc} {W : WX} {k : Nat} {C : SC} {X : Cx}
theorem IxR.or {r r' : R2} (h : IxR X r) (h' : IxR X r') : IxR X (fun x y H Q => r x y H Q ∨ r' x y H Q) := by
  intro a b pins s σ H x y v u Q I rx ry q
  rcases q with q | q
  · exact h a b pins s σ H x y v u Q I rx ry q
  · exact h' a b pins s σ H x y v u Q I rx ry q
theorem atI_rel {K : PySem.W.Frag} {φ : Fz} {μ : List Addr} {H : Hp} {ds : List D} {vs : List V} {i : Int} {d : D} (r : RelL K φ μ H ds vs) (h : atI ds i = some d) : ∃ v, atI vs i = some v ∧ RelD K φ μ H d v := by
  unfold atI at h ⊢
  rw [← r.length]
  cases q : ixN ds.length i with
  | none => rw [q] at h; cases h
  | some j =>
    rw [q] at h
    exact r.get h
theorem plainIx {b : Expr} (h : notSlice b = true) : PlainIx b := by
  cases b <;> first | (exact fun _ _ => rfl) | cases h
/-- d[y] of a dict -/
theorem ix_dict (hu : X.A.units + 1 < cLine) : IxR X (fun x y H Q => ∃ a v, x = .ref a ∧ DGet H a y (some v) ∧ Q v H) := by
  intro value slice pins s σ H x y v u Q I rx ry q hs
  obtain ⟨a, w, rfl, g, q⟩ := q
  cases rx
  have hT := dict_typeIs I g
  unfold PyProof.Rows.subscriptTail
  refine wpAny_bind ?_
  rw [getitemInPython_of_ne hT.not_modules]
  refine wpAny_bind (wpAny_specialOf hT PySem.F.slot_dict_getitem.lookup ?_)
  have fin : wpAny (model X.prog X.w) X.A (subscripted slice false (.ref a) u) (fun r s₃ => wpAny (model X.prog X.w) X.A (letTemporaryGo value (.ref a) r >>= fun _ => pure r) (EP X pins σ Q) X.xe s₃) X.xe s := by
    rw [hs]
    exact wpAny_operating (d_getItem hu I g ry fun w' s3 I3 rw' => wpAny_bind (wpAny_letTemporaryGo (wpAny_pure ⟨w, H, I3, rw', q⟩)))
  first
    | exact wpAny_pure (wpAny_bind fin)
    | exact wpAny_bind (wpAny_pure (wpAny_bind fin))
    | exact wpAny_bind fin
theorem s_idx {m : Md} {a b : E} {e : Expr} (G : Good T xc o W k C X) (ia : IhE T xc o W C X a) (ib : IhE T xc o W C X b) (h : mtE T m C (.idx a b) e = true) : PE X e (rdP X.K xc o W (.idx a b)) := by
  simp only [mtE] at h
  split at h <;> first | cases h | skip
  obtain ⟨h1, h2, h3⟩ := and3 h
  refine PE.imp (pe_ix ((ix_dict (by have := G.room.un; omega)).or ix_seq) (to_E (ia _ h1)) (to_E (ib _ h2)) (plainIx h3)) fun σ H Q => ?_
  rintro ⟨φ, μ, env, s, rs, re, h⟩
  simp only [ev] at h
  refine seqv rs re h fun x s1 φ1 μ1 H1 v l1 rs1 re1 rd1 h1 => seqv rs1 re1 h1 fun y s2 φ2 μ2 H2 u l2 rs2 re2 rd2 h2 => ?_
  obtain ⟨d, e, h3⟩ := fin_ofOv h2
  unfold idxR at e
  cases zd : dicOf x s2 with
  | some kvs =>
    rw [zd] at e
    obtain ⟨ky, e1, e2⟩ := Option.bind_eq_some_iff.mp e
    obtain ⟨p, ws, rfl, g1, g2⟩ := dic_rel rs2 (rd1.up l2) zd
    obtain ⟨w, w1, w2⟩ := g2.get e2
    exact .inl ⟨p, w, rfl, .inl ⟨ws, ky, g1, key_rel rd2 e1, w1.symm⟩, fin_val h3 rs2 w2⟩
  | none =>
  rw [zd] at e
  refine .inr ?_
  simp only at e
  split at e
  · rename_i i
    have eu := relD_int rd2
    subst eu
    split at e
    · rename_i z
      have ev := relD_str rd1
      subst ev
      split at e
      · rename_i c
        obtain ⟨n, e1, e2⟩ := Option.map_eq_some_iff.mp e
        subst e2
        exact .inr (.inr ⟨z, i, n, rfl, rfl, le_lineN c, e1, fin_val h3 rs2 mk_str⟩)
      · cases e
    · obtain ⟨q1, q, e⟩ := Option.bind_eq_some_iff.mp e
      obtain ⟨p, vs, rfl, hq, rl⟩ := sq_rel rs2 (rd1.up l2) q
      obtain ⟨w, e2, rw'⟩ := atI_rel rl e
      unfold SqA at hq
      split at hq
      · exact .inr (.inl ⟨p, vs, i, w, rfl, rfl, hq, e2, fin_val h3 rs2 rw'⟩)
      · exact .inl ⟨p, vs, i, w, rfl, rfl, hq, e2, fin_val h3 rs2 rw'⟩
  · cases e
theorem slice_rel {K : PySem.W.Frag} {φ : Fz} {μ : List Addr} {H : Hp} {ds : List D} {vs : List V} {lo hi : Option Int} (r : RelL K φ μ H ds vs) : RelL K φ μ H (slice ds lo hi) (cutV vs lo hi) := by
  unfold slice cutV
  rw [← r.length]
  exact (r.drop _).take _
theorem slice_all {ds : List D} {lo hi : Option Int} (h : HT.sIx ds.length 0 lo = 0 ∧ HT.sIx ds.length ds.length hi = ds.length) : slice ds lo hi = ds := by
  unfold slice
  rw [h.1, h.2]
  simp
/-- a part of a slice -/
def tPt (K : PySem.W.Frag) (xc : XcT) (o : Orc) (W : WX) (e : E) : TO := fun σ H Q => ∃ φ μ env s, RelS K φ μ H s ∧ RelE xc K φ μ H env σ ∧ Fin K W (fun _ _ _ a b => a = b) φ μ H σ ((ev o e env s).bindv fun d s1 => R.ofO (part e d) s1) Q
theorem PO.imp {e : Option Expr} {t t' : TO} (h : PO X e t) (i : ∀ σ H Q, t' σ H Q → t σ H Q) : PO X e t' := ⟨fun pins s σ H Q I q => h.run pins s σ H Q I (i σ H Q q)⟩
theorem part_non {e : E} (h : isNonE e = true) : e = .con .non := by
  cases e <;> first | cases h | skip
  rename_i d
  cases d <;> first | rfl | cases h
theorem po_of {e : E} {p : Option Expr} (ih : IhE T xc o W C X e) (h : (match p with
    | none => isNonE e
    | some p => !isNonE e && mtE T .v C e p) = true) : PO X p (tPt X.K xc o W e) := by
  cases p with
  | none =>
    have e1 := part_non h
    subst e1
    refine PO.imp po_none fun σ H Q => ?_
    rintro ⟨φ, μ, env, s, rs, re, h⟩
    simp only [ev, okv_eq, R.bindv_val, part, isNonE, if_true, R.ofO_some] at h
    exact h.here rs rfl
  | some p =>
    obtain ⟨h1, h2⟩ := and2 h
    refine PO.imp (po_some (to_E (ih p h2))) fun σ H Q => ?_
    rintro ⟨φ, μ, env, s, rs, re, h⟩
    refine seqv rs re h fun d s1 φ1 μ1 H1 v l1 rs1 re1 rd1 h1' => ?_
    obtain ⟨q, e1, h2'⟩ := h1'.ofO
    have hn : isNonE e = false := by simpa using h1
    cases d <;> first | (simp [part, hn] at e1; done) | skip
    rename_i i
    simp only [part, hn, Bool.false_eq_true, if_false, Option.some.injEq] at e1
    subst e1
    exact ⟨i, relD_int rd1, h2'.here rs1 rfl⟩
theorem s_slc {m : Md} {a lo hi : E} {e : Expr} (ia : IhE T xc o W C X a) (il : IhE T xc o W C X lo) (ih : IhE T xc o W C X hi) (h : mtE T m C (.slc a lo hi) e = true) : PE X e (rdP X.K xc o W (.slc a lo hi)) := by
  simp only [mtE] at h
  split at h <;> first | cases h | skip
  obtain ⟨h1, h2, h3⟩ := and3 h
  refine PE.imp (pe_slice (SlR.or (SlR.or sl_list sl_tupA) sl_str) (to_E (ia _ h1)) (po_of il h2) (po_of ih h3)) fun σ H Q => ?_
  rintro ⟨φ, μ, env, s, rs, re, h⟩
  simp only [ev] at h
  refine seqv rs re h fun x s1 φ1 μ1 H1 v l1 rs1 re1 rd1 h1 => ⟨φ1, μ1, env, s1, rs1, re1, Fin.bind h1 fun l s2 φ2 μ2 H2 l' l2 rs2 e2 h2 => ?_⟩
  subst e2
  refine ⟨φ2, μ2, env, s2, rs2, re1.up l2, Fin.bind h2 fun u s3 φ3 μ3 H3 u' l3 rs3 e3 h3 => ?_⟩
  subst e3
  cases z : slcR x l u s3 with
  | none => rw [z] at h3; exact h3.elim
  | some r =>
    rw [z] at h3
    unfold slcR at z
    split at z
    · rename_i a
      have ev := relD_str rd1
      subst ev
      split at z
      · rename_i c
        cases z
        exact .inr ⟨a, rfl, le_lineN c, fin_val h3 rs3 mk_str⟩
      · cases z
    · obtain ⟨q1, q, e⟩ := Option.map_eq_some_iff.mp z
      subst e
      obtain ⟨p, vs, rfl, hq, rl⟩ := sq_rel rs3 ((rd1.up l2).up l3) q
      unfold SqA at hq
      split at hq
      · rename_i c
        rw [if_pos c] at h3
        refine .inl (.inr ⟨p, vs, rfl, hq, fun w => ?_, fun _ p' hp => ?_⟩)
        · rw [← rl.length] at w
          rw [slice_all w] at h3
          exact fin_val h3 rs3 (mk_tup hq rl)
        · exact h3 _ _ _ _ (Le.new hp rs3.here) (rs3.beside hp) (mk_tup (SqT.of upd_same) ((slice_rel rl).up (Le.new hp rs3.here)))
      · rename_i c
        rw [if_neg c] at h3
        exact .inl (.inl ⟨p, vs, rfl, hq, new_fin h3 rs3 (slice_rel rl)⟩)
theorem lst_rel {K : PySem.W.Frag} {φ : Fz} {μ : List Addr} {H : Hp} {s : Sto} {d : D} {v : V} {xs : List D} (rs : RelS K φ μ H s) (rd : RelD K φ μ H d v) (h : lstOf d s = some xs) : ∃ a vs, v = .ref a ∧ SqL K H a vs ∧ RelL K φ μ H xs vs := by
  cases d <;> first | (simp [lstOf] at h; done) | skip
  · cases h
    obtain ⟨a, vs, e, h1, h2⟩ := relD_flst rd
    exact ⟨a, vs, e, h1.sq, h2⟩
  · rename_i n
    obtain ⟨a, e, h1⟩ := relD_loc rd
    simp only [lstOf] at h
    cases z : s[n]? with
    | none => rw [z] at h; cases h
    | some c =>
      rw [z] at h
      cases c with
      | lst ys =>
        cases h
        obtain ⟨vs, e1, e2⟩ := rs.cell n _ a z h1
        exact ⟨a, vs, e, SqL.of e1, e2⟩
      | dk _ => cases h
      | lk _ => cases h
      | ins _ _ => cases h
theorem RelL.rev {K : PySem.W.Frag} {φ : Fz} {μ : List Addr} {H : Hp} : ∀ {ds : List D} {vs : List V}, RelL K φ μ H ds vs → RelL K φ μ H ds.reverse vs.reverse
  | [], vs, r => by rw [r.of_nil]; exact .nil
  | d :: ds, vs, r => by
    obtain ⟨v, vr, rfl, r1, r2⟩ := r.of_cons
    rw [List.reverse_cons, List.reverse_cons]
    exact (RelL.rev r2).append (.cons r1 .nil)
theorem s_rev {m : Md} {a : E} {e : Expr} (ia : IhE T xc o W C X a) (h : mtE T m C (.rev a) e = true) : PE X e (rdP X.K xc o W (.rev a)) := by
  simp only [mtE] at h
  split at h <;> first | cases h | skip
  refine PE.imp (pe_revL (to_E (ia _ h))) fun σ H Q => ?_
  rintro ⟨φ, μ, env, s, rs, re, h⟩
  simp only [ev] at h
  refine seqv rs re h fun x s1 φ1 μ1 H1 v l1 rs1 re1 rd1 h1 => ?_
  cases z : lstOf x s1 with
  | none => rw [z] at h1; exact h1.elim
  | some xs =>
    rw [z] at h1
    obtain ⟨p, vs, rfl, h2, h3⟩ := lst_rel rs1 rd1 z
    exact ⟨p, vs, rfl, h2, new_fin h1 rs1 h3.rev⟩
/-! ### built-ins -/
/-- one argument -/
theorem pa1 {l : Expr} {t : TE} (h : PE X l t) (hs : notStar l = true) : PA X [l] (tCons t tNil) := pa_cons h pa_nil (star_cons hs)
theorem pa2 {l r : Expr} {t u : TE} (h : PE X l t) (g : PE X r u) (hs : notStar l = true) (gs : notStar r = true) : PA X [l, r] (tCons t (tCons u tNil)) := pa_cons h (pa1 g gs) (star_cons hs)
theorem stars1 {l : Expr} {env : PySem.Env} {pos : Pos} (h : notStar l = true) : (backTo pos (starEach [l] env)).any (·.1) = false := noStars_back (by unfold noStars; simp [h])
theorem kit_tab (t : Ty) : kitB "NoneType" (tyStr t) = some (isTy t .non) ∧ kitB "bool" (tyStr t) = some (isTy t (.bl true)) ∧ kitB "int" (tyStr t) = some (isTy t (.int 0)) ∧ kitB "str" (tyStr t) = some (isTy t (.str ⟨#[]⟩)) ∧
    kitB "tuple" (tyStr t) = some (isTy t (.tup [])) ∧ kitB "list" (tyStr t) = some (isTy t (.flst [])) ∧ kitB "list" (tyStr t) = some (decide (t = .list)) ∧ kitB "dict" (tyStr t) = some false := by
  cases t <;> decide +kernel
theorem sqt_ty {K : PySem.W.Frag} {H : Hp} {a : Addr} {vs : List V} (h : SqT K H a vs) : TyX K H (.ref a) (.type "tuple") := by
  rcases h with (h | ⟨x, h⟩) | ⟨ob, its, n, h1, h2, _⟩
  · exact .base (.tup h)
  · exact .fTuple h
  · exact .kTuple h1 h2
theorem sql_ty {K : PySem.W.Frag} {H : Hp} {a : Addr} {vs : List V} (h : SqL K H a vs) : TyX K H (.ref a) (.type "list") := by
  rcases h with (h | ⟨x, h⟩) | ⟨ob, its, n, h1, h2, _⟩
  · exact .base (.lst h)
  · exact .base (.frz h)
  · exact .kList h1 h2
theorem ty_rel {K : PySem.W.Frag} {φ : Fz} {μ : List Addr} {H : Hp} {s : Sto} {d : D} {v : V} {t : Ty} {b : Bool} (rs : RelS K φ μ H s) (h : RelD K φ μ H d v) (e : isTyR t d s = some b) : ∃ ty, TyX K H v (.type ty) ∧ kitB ty (tyStr t) = some b := by
  obtain ⟨h1, h2, h3, h4, h5, h6, h7, h8⟩ := kit_tab t
  cases d with
  | non => cases relD_non h; cases e; exact ⟨_, .base .non, h1⟩
  | bl b => cases relD_bl h; cases e; exact ⟨_, .base (.bl b), h2.trans (by cases t <;> rfl)⟩
  | int b => cases relD_int h; cases e; exact ⟨_, .base (.int b), h3.trans (by cases t <;> rfl)⟩
  | str b => cases relD_str h; cases e; exact ⟨_, .base (.str b), h4.trans (by cases t <;> rfl)⟩
  | tup b => obtain ⟨a, vs, rfl, g, _⟩ := relD_tup h; cases e; exact ⟨_, sqt_ty g, h5.trans (by cases t <;> rfl)⟩
  | flst b => obtain ⟨a, vs, rfl, g, _⟩ := relD_flst h; cases e; exact ⟨_, sql_ty g.sq, h6.trans (by cases t <;> rfl)⟩
  | fdk _ _ => obtain ⟨a, ob, ws, rfl, g, _⟩ := relD_fdk h; cases e; exact ⟨_, .fDict g, h8⟩
  | fins _ _ _ => cases e
  | exc _ _ => cases e
  | clo _ _ => cases e
  | loc n =>
    obtain ⟨a, rfl, g⟩ := relD_loc h
    simp only [isTyR] at e
    cases z : s[n]? with
    | none => rw [z] at e; cases e
    | some c =>
      rw [z] at e
      cases c with
      | lst xs =>
        obtain ⟨vs, e1, _⟩ := rs.cell n _ a z g
        cases e
        exact ⟨_, .base (.lst e1), h7⟩
      | dk kvs =>
        obtain ⟨vs, e1, _⟩ := rs.cell n _ a z g
        cases e
        exact ⟨_, .base (.dK e1), h8⟩
      | lk kvs =>
        obtain ⟨ob, vs, e1, _⟩ := rs.cell n _ a z g
        cases e
        exact ⟨_, .fDict e1, h8⟩
      | ins _ _ => cases e
theorem blt_names : bootBuiltins "int" = some (.type "int") ∧ bootBuiltins "abs" = some (.builtin "abs") ∧ bootBuiltins "len" = some (.builtin "len") ∧ bootBuiltins "repr" = some (.builtin "repr") ∧ bootBuiltins "isinstance" = some (.builtin "isinstance") ∧
    bootBuiltins "min" = some (.builtin "min") ∧ bootBuiltins "max" = some (.builtin "max") ∧ bootBuiltins "all" = some (.builtin "all") ∧ bootBuiltins "any" = some (.builtin "any") ∧ bootBuiltins "sum" = some (.builtin "sum") ∧ bootBuiltins "tuple" = some (.type "tuple") ∧ bootBuiltins "list" = some (.type "list") ∧
    bootBuiltins "bool" = some (.type "bool") ∧ bootBuiltins "str" = some (.type "str") := by
  refine ⟨?_, ?_, ?_, ?_, ?_, ?_, ?_, ?_, ?_, ?_, ?_, ?_, ?_, ?_⟩ <;> decide +kernel
theorem ty_boot (t : Ty) : bootBuiltins (tyName t) = some (.type (tyStr t)) := by
  obtain ⟨h1, h2, h3, h4, h5, h6, h7, h8, h9, h10, h11, h12, h13, h14⟩ := blt_names
  cases t
  · exact h1
  · exact h13
  · exact h14
  · exact h11
  · exact h12
theorem ty_plain (t : Ty) : tyName t ≠ "__name__" ∧ (tyName t == ("__debug__" : Str)) = false := by
  cases t <;> exact ⟨by decide +kernel, by decide +kernel⟩
end
end Mi

/-! # Built-ins, calls -/
namespace Mi
open PySem L2
section
variable {T : Tab} {xc : XcT} {o : Orc} {W : WX} {k : Nat} {C : SC} {X : Cx}
/-! ### repr -/
theorem optAll_get {α : Type} : ∀ {l : List (Option α)} {r : List α}, optAll l = some r → l = r.map some
  | [], r, h => by cases h; rfl
  | some a :: l, r, h => by
    simp only [optAll, Option.map_eq_some_iff] at h
    obtain ⟨q, h1, h2⟩ := h
    subst h2
    rw [List.map_cons, optAll_get h1]
  | none :: l, r, h => by cases h
/-- a tree is read off the heap -/
theorem reads_of {φ : Fz} {μ : List Addr} {H : Hp} {st : Sto} {pins : List (Addr × Obj)} {σ : St} {s : Shared} (I : L2.Inv X pins σ H s) (rs : RelS X.K φ μ H st) : ∀ (n : Nat) (d : D) (v : V) (u : Value) (p : PyData), RelD X.K φ μ H d v → RelV v u → toPy st n d = some p →
    ∃ as, PySem.Reads s.heap u p as ∧ p.depth ≤ n ∧ p.hasDict = false := by
  intro n
  have many : ∀ n, (∀ (d : D) (v : V) (u : Value) (p : PyData), RelD X.K φ μ H d v → RelV v u → toPy st n d = some p → ∃ as, PySem.Reads s.heap u p as ∧ p.depth ≤ n ∧ p.hasDict = false) →
      ∀ (ds : List D) (vs : List V) (us : List Value) (ps : List PyData), RelL X.K φ μ H ds vs → Vals vs us → ds.map (toPy st n) = ps.map some → ∃ as, PySem.ReadsAll s.heap us ps as ∧ PyData.depthAll ps ≤ n ∧ PyData.hasDictAll ps = false := by
    intro n ih ds
    induction ds with
    | nil =>
      intro vs us ps r rv e
      rw [r.of_nil] at rv
      cases rv
      have : ps = [] := by simpa using e.symm
      subst this
      exact ⟨[], .nil, Nat.zero_le _, by unfold PyData.hasDictAll; rfl⟩
    | cons d ds ih2 =>
      intro vs us ps r rv e
      obtain ⟨v, vr, rfl, r1, r2⟩ := r.of_cons
      cases rv with
      | cons q qs =>
        cases ps with
        | nil => simp at e
        | cons p ps =>
          rw [List.map_cons, List.map_cons] at e
          injection e with e1 e2
          obtain ⟨as, h1, h2, h3⟩ := ih d v _ p r1 q e1
          obtain ⟨bs, h4, h5, h6⟩ := ih2 vr _ ps r2 qs e2
          exact ⟨as ++ bs, .cons h1 h4, by unfold PyData.depthAll; exact Nat.max_le.mpr ⟨h2, h5⟩, by unfold PyData.hasDictAll; rw [h3, h6]; rfl⟩
  induction n with
  | zero =>
    intro d v u p rd rv h
    cases d <;> first | (simp [toPy] at h; done) | skip
    · cases relD_non rd; cases rv; cases h; exact ⟨_, .none, Nat.le_refl _, by unfold PyData.hasDict; rfl⟩
    · cases relD_bl rd; cases rv; cases h; exact ⟨_, .bool _, Nat.le_refl _, by unfold PyData.hasDict; rfl⟩
    · cases relD_int rd; obtain ⟨t, rfl⟩ := rv; cases h; exact ⟨_, .int _ _, Nat.le_refl _, by unfold PyData.hasDict; rfl⟩
    · cases relD_str rd; obtain ⟨t, rfl⟩ := rv; cases h; exact ⟨_, .str _ _, Nat.le_refl _, by unfold PyData.hasDict; rfl⟩
  | succ n ih =>
    intro d v u p rd rv h
    have lists : ∀ (a : Addr) (vs : List V) (xs : List D), v = .ref a → SqL X.K H a vs → RelL X.K φ μ H xs vs → (optAll (xs.map (toPy st n))).map PyData.list = some p → ∃ as, PySem.Reads s.heap u p as ∧ p.depth ≤ n + 1 ∧ p.hasDict = false := fun a vs xs e h1 h2 h => by
      subst e
      cases rv
      obtain ⟨ps, e1, e2⟩ := Option.map_eq_some_iff.mp h
      subst e2
      obtain ⟨its, rv, ⟨ob, c, g1, g2, g3, g4⟩, _⟩ := I.list h1
      obtain ⟨as, q1, q2, q3⟩ := many n ih xs vs its ps h2 rv (optAll_get e1)
      exact ⟨_, .list g1 g2 g4 (by simpa using q1), by unfold PyData.depth; omega, by unfold PyData.hasDict; exact q3⟩
    cases d with
    | non => cases relD_non rd; cases rv; cases h; exact ⟨_, .none, Nat.zero_le _, by unfold PyData.hasDict; rfl⟩
    | bl b => cases relD_bl rd; cases rv; cases h; exact ⟨_, .bool _, Nat.zero_le _, by unfold PyData.hasDict; rfl⟩
    | int b => cases relD_int rd; obtain ⟨t, rfl⟩ := rv; cases h; exact ⟨_, .int _ _, Nat.zero_le _, by unfold PyData.hasDict; rfl⟩
    | str b => cases relD_str rd; obtain ⟨t, rfl⟩ := rv; cases h; exact ⟨_, .str _ _, Nat.zero_le _, by unfold PyData.hasDict; rfl⟩
    | tup xs =>
      obtain ⟨a, vs, rfl, h1, h2⟩ := relD_tup rd
      cases rv
      simp only [toPy] at h
      obtain ⟨ps, e1, e2⟩ := Option.map_eq_some_iff.mp h
      subst e2
      obtain ⟨its, rv, ⟨ob, g1, g2, c, g3⟩, _⟩ := I.tuple h1
      obtain ⟨as, q1, q2, q3⟩ := many n ih xs vs its ps h2 rv (optAll_get e1)
      exact ⟨as, .tuple g1 g2 g3 (by simpa using q1), by unfold PyData.depth; omega, by unfold PyData.hasDict; exact q3⟩
    | flst xs =>
      obtain ⟨a, vs, e, h1, h2⟩ := relD_flst rd
      exact lists a vs xs e h1.sq h2 h
    | loc i =>
      obtain ⟨a, e, h1⟩ := relD_loc rd
      simp only [toPy] at h
      cases q : st[i]? with
      | none => rw [q] at h; cases h
      | some c =>
        rw [q] at h
        cases c with
        | lst xs =>
          obtain ⟨vs, e1, e2⟩ := rs.cell i _ a q h1
          exact lists a vs xs e (SqL.of e1) e2 h
        | dk _ => cases h
        | lk _ => cases h
        | ins _ _ => cases h
    | fdk _ _ => simp [toPy] at h
    | fins _ _ _ => simp [toPy] at h
    | exc _ _ => simp [toPy] at h
    | clo _ _ => simp [toPy] at h
def rRepr (K : PySem.W.Frag) : List V → Hp → VK → Prop := fun xs H Q => ∃ φ μ st d p v, xs = [v] ∧ RelS K φ μ H st ∧ RelD K φ μ H d v ∧ toPy st 60 d = some p ∧ p.showable = true ∧ p.shown.length ≤ sizeMax ∧ Q (.str p.shown) H
theorem call_reprD (hg : X.A.guards = some []) (hu : X.A.units + 64 < cLine) : CallR X (.builtin "repr") (rRepr X.K) := by
  intro pins s σ H xs us Q I r h
  obtain ⟨φ, μ, st, d, p, v, rfl, rs, rd, ht, hs, hz, q⟩ := h
  obtain ⟨u, rfl, rv⟩ := vals1 r
  have hz' : p.shown.length ≤ sizeLine := le_line hz
  have refs : ∀ a, v = .ref a → wpAny (model X.prog X.w) X.A (call (.builtin "repr") [u]) (EP X pins σ Q) X.xe s := fun a e => by
    obtain ⟨as, q1, q2, q3⟩ := reads_of I rs 60 d v u p rd rv ht
    subst e
    cases rv
    exact repr_of_reads' q1 hs (fun z => by rw [q3] at z; cases z) hg (by omega) (fun _ _ z => z) (fun h' u tk hk => ⟨.str p.shown, H, I.kept hk, ⟨_, rfl⟩, q⟩) hz'
  cases d with
  | non =>
    cases relD_non rd; cases rv; cases ht
    exact PySem.P.repr_of_none ⟨.str _, H, I.tok _, ⟨_, rfl⟩, q⟩
  | bl b =>
    cases relD_bl rd; cases rv; cases ht
    exact PySem.P.repr_of_bool ⟨.str _, H, I.tok _, ⟨_, rfl⟩, q⟩
  | int b =>
    cases relD_int rd; obtain ⟨t, rfl⟩ := rv; cases ht
    exact PySem.P.repr_of_int (of_decide_eq_true hs) ⟨.str _, H, I.tok _, ⟨_, rfl⟩, q⟩
  | str b =>
    cases relD_str rd; obtain ⟨t, rfl⟩ := rv; cases ht
    exact PySem.P.repr_of_str ⟨.str _, H, I.tok _, ⟨_, rfl⟩, q⟩ hz'
  | tup xs => obtain ⟨a, vs, e, _⟩ := relD_tup rd; exact refs a e
  | flst xs => obtain ⟨a, vs, e, _⟩ := relD_flst rd; exact refs a e
  | loc n => obtain ⟨a, e, _⟩ := relD_loc rd; exact refs a e
  | fdk _ _ => simp [toPy] at ht
  | fins _ _ _ => simp [toPy] at ht
  | exc _ _ => simp [toPy] at ht
  | clo _ _ => simp [toPy] at ht
/-! ### built-ins of one value -/
/-- what a built-in gives of a tree -/
def rB1 (K : PySem.W.Frag) (f : B1) : List V → Hp → VK → Prop := fun xs H Q => ∃ φ μ st d r v, xs = [v] ∧ RelS K φ μ H st ∧ RelD K φ μ H d v ∧ b1 f d st = some r ∧ ∀ u, RelD K φ μ H r u → Q u H
theorem call_b1i : CallR X (.type "int") (rB1 X.K .int) := by
  intro pins s σ H xs us Q I r h
  obtain ⟨φ, μ, st, d, y, v, rfl, rs, rd, e, q⟩ := h
  cases d <;> first | (simp [b1] at e; done) | skip
  · rename_i b
    cases relD_bl rd
    cases e
    exact call_int1 pins s σ H _ us Q I r (.inr ⟨b, rfl, q _ mk_int⟩)
  · rename_i i
    cases relD_int rd
    cases e
    exact call_int1 pins s σ H _ us Q I r (.inl ⟨i, rfl, q _ mk_int⟩)
  · rename_i x
    cases relD_str rd
    simp only [b1] at e
    split at e
    · rename_i c
      obtain ⟨n, e1, e2⟩ := Option.map_eq_some_iff.mp e
      subst e2
      exact call_int_str pins s σ H _ us Q I r ⟨x, n, rfl, e1, c, q _ mk_int⟩
    · cases e
theorem call_b1s : CallR X (.type "str") (rB1 X.K .str) := by
  intro pins s σ H xs us Q I r h
  obtain ⟨φ, μ, st, d, y, v, rfl, rs, rd, e, q⟩ := h
  cases d <;> first | (simp [b1] at e; done) | skip
  · rename_i i
    cases relD_int rd
    simp only [b1] at e
    split at e
    · rename_i c
      cases e
      exact call_str_int pins s σ H _ us Q I r ⟨i, rfl, c, q _ mk_str⟩
    · cases e
  · rename_i x
    cases relD_str rd
    cases e
    exact SkE.call_str_str pins s σ H _ us Q I r ⟨x, rfl, q _ mk_str⟩
theorem call_b1a : CallR X (.builtin "abs") (rB1 X.K .abs) := by
  intro pins s σ H xs us Q I r h
  obtain ⟨φ, μ, st, d, y, v, rfl, rs, rd, e, q⟩ := h
  cases d <;> first | (simp [b1] at e; done) | skip
  rename_i i
  cases relD_int rd
  cases e
  exact call_abs pins s σ H _ us Q I r ⟨i, rfl, q _ mk_int⟩
theorem call_b1l : CallR X (.builtin "len") (rB1 X.K .len) := by
  intro pins s σ H xs us Q I r h
  obtain ⟨φ, μ, st, d, y, v, rfl, rs, rd, e, q⟩ := h
  by_cases hs : ∃ x, d = .str x
  · obtain ⟨x, rfl⟩ := hs
    have ev := relD_str rd
    subst ev
    simp only [b1] at e
    split at e
    · rename_i c
      cases e
      exact call_len_str pins s σ H _ us Q I r ⟨x, rfl, le_lineN c, q _ mk_int⟩
    · cases e
  have e' : (match sq d st with
    | some q => some (D.int q.2.length)
    | none => (dicOf d st).map fun kvs => D.int kvs.length) = some y := by cases d <;> first | exact e | exact absurd ⟨_, rfl⟩ hs
  cases z0 : sq d st with
  | none =>
    rw [z0] at e'
    obtain ⟨kvs, e1, e2⟩ := Option.map_eq_some_iff.mp e'
    subst e2
    obtain ⟨a, ws, rfl, h1, h2⟩ := dic_rel rs rd e1
    obtain ⟨u, rfl, ru⟩ := vals1 r
    cases ru
    have q' := q _ mk_int
    rw [h2.length] at q'
    exact d_len I h1 fun t s' I' => ⟨.int ws.length, H, I', ⟨t, rfl⟩, q'⟩
  | some z =>
  rw [z0] at e'
  have e1 : sq d st = some z := z0
  have e2 := Option.some.inj e'
  subst e2
  obtain ⟨a, vs, rfl, h1, h2⟩ := sq_rel rs rd e1
  have q' := q _ mk_int
  rw [h2.length] at q'
  unfold SqA at h1
  split at h1
  · exact call_len_seq pins s σ H _ us Q I r ⟨a, vs, rfl, .inr h1, q'⟩
  · exact call_len_seq pins s σ H _ us Q I r ⟨a, vs, rfl, .inl h1, q'⟩
theorem call_b1r (hg : X.A.guards = some []) (hu : X.A.units + 64 < cLine) : CallR X (.builtin "repr") (rB1 X.K .repr) := by
  intro pins s σ H xs us Q I r h
  obtain ⟨φ, μ, st, d, y, v, rfl, rs, rd, e, q⟩ := h
  simp only [b1] at e
  split at e
  · rename_i p hp
    split at e
    · rename_i c
      cases e
      obtain ⟨c1, c2⟩ := and2 c
      exact call_reprD hg hu pins s σ H _ us Q I r ⟨φ, μ, st, d, p, v, rfl, rs, rd, hp, c1, of_decide_eq_true c2, q _ mk_str⟩
    · cases e
  · cases e
def rIsiB (K : PySem.W.Frag) (t : Ty) : List V → Hp → VK → Prop := fun xs H Q => ∃ φ μ st d v b, xs = [v, .ty (tyStr t)] ∧ RelS K φ μ H st ∧ RelD K φ μ H d v ∧ isTyR t d st = some b ∧ Q (.bl b) H
theorem call_b1t (t : Ty) : CallR X (.builtin "isinstance") (rIsiB X.K t) := by
  intro pins s σ H xs us Q I r h
  obtain ⟨φ, μ, st, d, v, b, rfl, rs, rd, e, q⟩ := h
  obtain ⟨ty, e1, e2⟩ := ty_rel rs rd e
  exact call_isi pins s σ H _ us Q I r ⟨v, .ty (tyStr t), .type ty, .type (tyStr t), b, rfl, .ty _, e1, kit_ty e2, q⟩
theorem room_units (r : Room k X.A) : X.A.units + 64 < cLine := r.units
theorem b1_core {f : B1} {a : E} {r : List V → Hp → VK → Prop} {e : Expr} (h : PE X e (tCB r (tCons (rdE X.K xc o W a) tNil))) (hr : ∀ xs H Q, rB1 X.K f xs H Q → r xs H Q) : PE X e (rdP X.K xc o W (.b1 f a)) := by
  refine PE.imp h fun σ H Q => ?_
  rintro ⟨φ, μ, env, s, rs, re, h⟩
  simp only [ev] at h
  refine seqv rs re h fun x s1 φ1 μ1 H1 v l1 rs1 re1 rd1 h1 => hr _ _ _ ?_
  obtain ⟨y, e, h2⟩ := fin_ofOv h1
  exact ⟨φ1, μ1, s1, x, y, v, rfl, rs1, rd1, e, fun u ru => fin_val h2 rs1 ru⟩
theorem s_b1 {m : Md} {f : B1} {a : E} {e : Expr} (G : Good T xc o W k C X) (ia : IhE T xc o W C X a) (h : mtE T m C (.b1 f a) e = true) : PE X e (rdP X.K xc o W (.b1 f a)) := by
  simp only [mtE] at h
  split at h <;> first | cases h | skip
  rename_i x p l ls pos
  obtain ⟨h1, h2, h3, h4⟩ := and4 h
  obtain ⟨e1, g1, g2⟩ := blt_ok G h1
  obtain ⟨b1', b2', b3, b4, b5, b6, b7, b8, b9, b10, b11, b12, b13, b14⟩ := blt_names
  have st := star_cons (es := ls) (env := X.env) h3
  cases f with
  | isi t =>
    cases ls <;> first | cases h4 | skip
    rename_i m2 ls2
    cases m2 <;> first | cases h4 | skip
    rename_i z zp
    cases ls2 <;> first | cases h4 | skip
    obtain ⟨e3, g3, g4⟩ := blt_ok G h4
    subst e1 e3
    have hp := ty_plain t
    have pt : PE X (.Name (tyName t) zp) (tC (.ty (tyStr t))) := pe_bltn g3 g4 (ty_boot t) rfl hp.1 hp.2
    refine PE.imp (pe_callB (call_b1t t) g1 g2 b5 (pa_cons (to_E (ia l h2)) (pa_cons pt pa_nil) st) (show ¬ ("isinstance" : Str) = "__name__" by decide +kernel) (show (("isinstance" : Str) == ("__debug__" : Str)) = false by decide +kernel) st (noStars_back rfl)) fun σ H Q => ?_
    rintro ⟨φ, μ, env, s, rs, re, h⟩
    simp only [ev] at h
    refine seqv rs re h fun x s1 φ1 μ1 H1 v l1 rs1 re1 rd1 h1 => ?_
    obtain ⟨y, e1, h2⟩ := fin_ofOv h1
    obtain ⟨b, e2, e3⟩ := Option.map_eq_some_iff.mp (show (isTyR t x s1).map D.bl = some y from e1)
    subst e3
    exact ⟨φ1, μ1, s1, x, v, b, rfl, rs1, rd1, e2, fin_val h2 rs1 mk_bl⟩
  | int =>
    cases ls <;> first | cases h4 | skip
    subst e1
    exact b1_core (pe_callTy call_b1i g1 g2 b1' (pa1 (to_E (ia l h2)) h3) (by decide +kernel) (by decide +kernel) st rfl) fun _ _ _ z => z
  | str =>
    cases ls <;> first | cases h4 | skip
    subst e1
    exact b1_core (pe_callTy call_b1s g1 g2 b14 (pa1 (to_E (ia l h2)) h3) (by decide +kernel) (by decide +kernel) st rfl) fun _ _ _ z => z
  | abs =>
    cases ls <;> first | cases h4 | skip
    subst e1
    exact b1_core (pe_callB call_b1a g1 g2 b2' (pa1 (to_E (ia l h2)) h3) (by decide +kernel) (by decide +kernel) st rfl) fun _ _ _ z => z
  | len =>
    cases ls <;> first | cases h4 | skip
    subst e1
    exact b1_core (pe_callB call_b1l g1 g2 b3 (pa1 (to_E (ia l h2)) h3) (by decide +kernel) (by decide +kernel) st rfl) fun _ _ _ z => z
  | repr =>
    cases ls <;> first | cases h4 | skip
    subst e1
    exact b1_core (pe_callB (call_b1r G.guards (room_units G.room)) g1 g2 b4 (pa1 (to_E (ia l h2)) h3) (by decide +kernel) (by decide +kernel) st rfl) fun _ _ _ z => z
theorem s_b2 {m : Md} {f : B2} {a b : E} {e : Expr} (G : Good T xc o W k C X) (ia : IhE T xc o W C X a) (ib : IhE T xc o W C X b) (h : mtE T m C (.b2 f a b) e = true) : PE X e (rdP X.K xc o W (.b2 f a b)) := by
  simp only [mtE] at h
  split at h <;> first | cases h | skip
  rename_i x p l r pos
  simp only [Bool.and_eq_true] at h
  obtain ⟨⟨⟨⟨h1, h2⟩, h3⟩, h4⟩, h5⟩ := h
  obtain ⟨e1, g1, g2⟩ := blt_ok G h1
  obtain ⟨b1', b2', b3, b4, b5, b6, b7, b8, b9, b10, b11, b12, b13, b14⟩ := blt_names
  have st := star_cons (es := [r]) (env := X.env) h4
  have pa := pa2 (to_E (ia l h2)) (to_E (ib r h3)) h4 h5
  have core : ∀ {q : List V → Hp → VK → Prop} {e : Expr}, (∀ i j z H Q, b2 f (.int i) (.int j) = some z → (∀ u φ μ H', RelD X.K φ μ H' z u → u = u) → (∀ u, (∃ n, z = .int n ∧ u = V.int n) → Q u H) → q [.int i, .int j] H Q) → PE X e (tCB q (tCons (rdE X.K xc o W a) (tCons (rdE X.K xc o W b) tNil))) → PE X e (rdP X.K xc o W (.b2 f a b)) := fun {q e} hq h => by
    refine PE.imp h fun σ H Q => ?_
    rintro ⟨φ, μ, env, s, rs, re, h⟩
    simp only [ev] at h
    refine seqv rs re h fun x s1 φ1 μ1 H1 v l1 rs1 re1 rd1 h1 => seqv rs1 re1 h1 fun y s2 φ2 μ2 H2 u l2 rs2 re2 rd2 h2 => ?_
    obtain ⟨z, e, h3⟩ := fin_ofOv h2
    cases x <;> first | (cases f <;> simp [b2] at e; done) | skip
    rename_i i
    cases y <;> first | (cases f <;> simp [b2] at e; done) | skip
    rename_i j
    cases relD_int (rd1.up l2)
    cases relD_int rd2
    refine hq i j z H2 Q e (fun _ _ _ _ _ => rfl) fun u ⟨n, e1, e2⟩ => ?_
    subst e1 e2
    exact fin_val h3 rs2 mk_int
  cases f with
  | min =>
    subst e1
    exact core (fun i j z H Q e _ hz => ⟨i, j, rfl, hz _ ⟨_, (Option.some.inj e).symm, rfl⟩⟩) (pe_callB (call_min2 G.calm) g1 g2 b6 pa (by decide +kernel) (by decide +kernel) st (stars1 h5))
  | max =>
    subst e1
    exact core (fun i j z H Q e _ hz => ⟨i, j, rfl, hz _ ⟨_, (Option.some.inj e).symm, rfl⟩⟩) (pe_callB (call_max2 G.calm) g1 g2 b7 pa (by decide +kernel) (by decide +kernel) st (stars1 h5))
/-! ### built-ins of a sequence -/
def rBq (K : PySem.W.Frag) (f : Bq) : List V → Hp → VK → Prop := fun xs H Q => ∃ φ μ st q r v, xs = [v] ∧ RelS K φ μ H st ∧ relQ K φ μ H q v ∧ bq f q.1 q.2 = some r ∧ ∀ φ' μ' H' u, Le K φ μ H φ' μ' H' → RelS K φ' μ' H' st → RelD K φ' μ' H' r u → Q u H'
theorem bools_rel {K : PySem.W.Frag} {φ : Fz} {μ : List Addr} {H : Hp} : ∀ {ds : List D} {vs : List V} {bs : List Bool}, RelL K φ μ H ds vs → boolsOf ds = some bs → vs = bs.map V.bl
  | [], _, _, r, h => by rw [r.of_nil]; cases h; rfl
  | d :: ds, _, _, r, h => by
    obtain ⟨v, q, rfl, r1, r2⟩ := r.of_cons
    cases d <;> first | (simp [boolsOf] at h; done) | skip
    simp only [boolsOf, Option.map_eq_some_iff] at h
    obtain ⟨bs, h1, rfl⟩ := h
    rw [relD_bl r1, bools_rel r2 h1]
    rfl
theorem ints_rel {K : PySem.W.Frag} {φ : Fz} {μ : List Addr} {H : Hp} : ∀ {ds : List D} {vs : List V} {bs : List Int}, RelL K φ μ H ds vs → intsOf ds = some bs → vs = bs.map V.int
  | [], _, _, r, h => by rw [r.of_nil]; cases h; rfl
  | d :: ds, _, _, r, h => by
    obtain ⟨v, q, rfl, r1, r2⟩ := r.of_cons
    cases d <;> first | (simp [intsOf] at h; done) | skip
    simp only [intsOf, Option.map_eq_some_iff] at h
    obtain ⟨bs, h1, rfl⟩ := h
    rw [relD_int r1, ints_rel r2 h1]
    rfl
theorem foldl_max : ∀ (l : List Int) (x : Int), x ≤ l.foldl (fun a b => if a < b then b else a) x ∧ (∀ y ∈ l, y ≤ l.foldl (fun a b => if a < b then b else a) x) ∧ (l.foldl (fun a b => if a < b then b else a) x = x ∨ l.foldl (fun a b => if a < b then b else a) x ∈ l)
  | [], x => ⟨Int.le_refl _, fun _ h => (by cases h), .inl rfl⟩
  | y :: l, x => by
    obtain ⟨h1, h2, h3⟩ := foldl_max l (if x < y then y else x)
    have h0 : x ≤ (if x < y then y else x) ∧ y ≤ (if x < y then y else x) ∧ ((if x < y then y else x) = x ∨ (if x < y then y else x) = y) := by split <;> omega
    rw [List.foldl_cons]
    generalize (if x < y then y else x) = w at h0 h1 h2 h3 ⊢
    refine ⟨Int.le_trans h0.1 h1, fun z hz => ?_, ?_⟩
    · rcases List.mem_cons.mp hz with rfl | hz
      · exact Int.le_trans h0.2.1 h1
      · exact h2 z hz
    · rcases h3 with h3 | h3
      · rw [h3]
        rcases h0.2.2 with e | e
        · exact .inl e
        · rw [e]; exact .inr List.mem_cons_self
      · exact .inr (List.mem_cons_of_mem _ h3)
theorem foldl_min : ∀ (l : List Int) (x : Int), l.foldl (fun a b => if b < a then b else a) x ≤ x ∧ (∀ y ∈ l, l.foldl (fun a b => if b < a then b else a) x ≤ y) ∧ (l.foldl (fun a b => if b < a then b else a) x = x ∨ l.foldl (fun a b => if b < a then b else a) x ∈ l)
  | [], x => ⟨Int.le_refl _, fun _ h => (by cases h), .inl rfl⟩
  | y :: l, x => by
    obtain ⟨h1, h2, h3⟩ := foldl_min l (if y < x then y else x)
    have h0 : (if y < x then y else x) ≤ x ∧ (if y < x then y else x) ≤ y ∧ ((if y < x then y else x) = x ∨ (if y < x then y else x) = y) := by split <;> omega
    rw [List.foldl_cons]
    generalize (if y < x then y else x) = w at h0 h1 h2 h3 ⊢
    refine ⟨Int.le_trans h1 h0.1, fun z hz => ?_, ?_⟩
    · rcases List.mem_cons.mp hz with rfl | hz
      · exact Int.le_trans h1 h0.2.1
      · exact h2 z hz
    · rcases h3 with h3 | h3
      · rw [h3]
        rcases h0.2.2 with e | e
        · exact .inl e
        · rw [e]; exact .inr List.mem_cons_self
      · exact .inr (List.mem_cons_of_mem _ h3)
theorem maxI_is {l : List Int} {m n : Int} (h : maxI l = some n) (h1 : m ∈ l) (h2 : ∀ y, y ∈ l → y ≤ m) : m = n := by
  cases l with
  | nil => cases h1
  | cons x r =>
    simp only [maxI, Option.some.injEq] at h
    obtain ⟨a, b, c⟩ := foldl_max r x
    rw [h] at a b c
    have k1 : n ∈ x :: r := by
      rcases c with c | c
      · rw [c]; exact List.mem_cons_self
      · exact List.mem_cons_of_mem _ c
    have k2 := h2 n k1
    rcases List.mem_cons.mp h1 with rfl | h1
    · omega
    · have := b m h1
      omega
theorem minI_is {l : List Int} {m n : Int} (h : minI l = some n) (h1 : m ∈ l) (h2 : ∀ y, y ∈ l → m ≤ y) : m = n := by
  cases l with
  | nil => cases h1
  | cons x r =>
    simp only [minI, Option.some.injEq] at h
    obtain ⟨a, b, c⟩ := foldl_min r x
    rw [h] at a b c
    have k1 : n ∈ x :: r := by
      rcases c with c | c
      · rw [c]; exact List.mem_cons_self
      · exact List.mem_cons_of_mem _ c
    have k2 := h2 n k1
    rcases List.mem_cons.mp h1 with rfl | h1
    · omega
    · have := b m h1
      omega
/-- sum, max, min, all, any: of a list -/
theorem bq_list {f : Bq} {id : String} {q : List V → Hp → VK → Prop} (hc : CallR X (.builtin id) q)
    (hq : ∀ (φ : Fz) (μ : List Addr) (ds : List D) (vs : List V) (r : D) (H : Hp) (a : Addr) (Q : VK), SqL X.K H a vs → RelL X.K φ μ H ds vs → bq f false ds = some r → (∀ u, RelD X.K φ μ H r u → Q u H) → q [.ref a] H Q)
    (ht : ∀ ds, bq f true ds = none) : CallR X (.builtin id) (rBq X.K f) := by
  intro pins s σ H xs us Q I r h
  obtain ⟨φ, μ, st, ⟨t, ds⟩, y, v, rfl, rs, ⟨a, vs, rfl, hs, rl⟩, e, hQ⟩ := h
  cases t with
  | true => rw [ht] at e; cases e
  | false => exact hc pins s σ H _ us Q I r (hq φ μ ds vs y H a Q hs rl e fun u ru => hQ φ μ H u Le.refl rs ru)
theorem call_all (hc : X.calm = true) : CallR X (.builtin "all") (rBq X.K .all) := bq_list (cr_all hc) (fun φ μ ds vs r H a Q hs rl e q => by
  simp only [bq, Bool.false_eq_true, if_false, Option.map_eq_some_iff] at e
  obtain ⟨bs, e1, rfl⟩ := e
  have := bools_rel rl e1
  subst this
  exact ⟨a, bs, rfl, hs, q _ mk_bl⟩) fun ds => rfl
theorem call_any (hc : X.calm = true) : CallR X (.builtin "any") (rBq X.K .any) := bq_list (cr_any hc) (fun φ μ ds vs r H a Q hs rl e q => by
  simp only [bq, Bool.false_eq_true, if_false, Option.map_eq_some_iff] at e
  obtain ⟨bs, e1, rfl⟩ := e
  have := bools_rel rl e1
  subst this
  exact ⟨a, bs, rfl, hs, q _ mk_bl⟩) fun ds => rfl
theorem call_sum (hc : X.calm = true) : CallR X (.builtin "sum") (rBq X.K .sum) := bq_list (cr_sum hc) (fun φ μ ds vs r H a Q hs rl e q => by
  simp only [bq, Bool.false_eq_true, if_false, Option.map_eq_some_iff] at e
  obtain ⟨bs, e1, rfl⟩ := e
  have := ints_rel rl e1
  subst this
  exact ⟨a, bs, rfl, hs, q _ mk_int⟩) fun ds => rfl
theorem call_maxq (hc : X.calm = true) : CallR X (.builtin "max") (rBq X.K .max) := bq_list (cr_max hc) (fun φ μ ds vs r H a Q hs rl e q => by
  simp only [bq, Bool.false_eq_true, if_false, Option.bind_eq_some_iff, Option.map_eq_some_iff] at e
  obtain ⟨bs, e1, n, e2, rfl⟩ := e
  have := ints_rel rl e1
  subst this
  refine ⟨a, bs, rfl, hs, ?_, fun m h1 h2 => ?_⟩
  · cases bs with
    | nil => cases e2
    | cons _ _ => exact Nat.succ_pos _
  · rw [maxI_is e2 h1 h2]
    exact q _ mk_int) fun ds => rfl
theorem call_minq (hc : X.calm = true) : CallR X (.builtin "min") (rBq X.K .min) := bq_list (cr_min hc) (fun φ μ ds vs r H a Q hs rl e q => by
  simp only [bq, Bool.false_eq_true, if_false, Option.bind_eq_some_iff, Option.map_eq_some_iff] at e
  obtain ⟨bs, e1, n, e2, rfl⟩ := e
  have := ints_rel rl e1
  subst this
  refine ⟨a, bs, rfl, hs, ?_, fun m h1 h2 => ?_⟩
  · cases bs with
    | nil => cases e2
    | cons _ _ => exact Nat.succ_pos _
  · rw [minI_is e2 h1 h2]
    exact q _ mk_int) fun ds => rfl
theorem call_tupq : CallR X (.type "tuple") (rBq X.K .tuple) := by
  intro pins s σ H xs us Q I r h
  obtain ⟨φ, μ, st, ⟨t, ds⟩, y, v, rfl, rs, ⟨a, vs, rfl, hs, rl⟩, e, hQ⟩ := h
  cases e
  cases t with
  | true => exact call_tuple_of pins s σ H _ us Q I r ⟨a, vs, rfl, .inr ⟨hs, hQ φ μ H _ Le.refl rs (mk_tup hs rl)⟩⟩
  | false => exact call_tuple_of pins s σ H _ us Q I r ⟨a, vs, rfl, .inl ⟨hs, fun p hp => hQ φ μ _ _ (Le.new hp rs.here) (rs.beside hp) (mk_tup (SqT.of upd_same) (rl.up (Le.new hp rs.here)))⟩⟩
end
end Mi

/-! # Sequences, calls of functions, comprehensions -/
namespace Mi
open PySem L2
section
variable {T : Tab} {xc : XcT} {o : Orc} {W : WX} {k : Nat} {C : SC} {X : Cx}
theorem seqq {K : PySem.W.Frag} {e : E} {σ : St} {H : Hp} {φ : Fz} {μ : List Addr} {env : Env} {s : Sto} {γ δ : Type} {rel2 : Rl γ δ} {f : Bool × List D → Sto → R γ} {Q : δ → Hp → Prop} {Q1 : V → Hp → Prop} (rs : RelS K φ μ H s) (re : RelE xc K φ μ H env σ)
    (h : Fin K W rel2 φ μ H σ ((ev o e env s).bindq f) Q)
    (k : ∀ q s' φ' μ' H' v, Le K φ μ H φ' μ' H' → RelS K φ' μ' H' s' → RelE xc K φ' μ' H' env σ → relQ K φ' μ' H' q v → Fin K W rel2 φ' μ' H' σ (f q s') Q → Q1 v H') : rdQ K xc o W e σ H Q1 := by
  refine ⟨φ, μ, env, s, rs, re, ?_⟩
  unfold R.bindq at h ⊢
  refine Fin.bind (r := (ev o e env s).bind fun p s => (R.ofO (sqP p s) s).bind fun q s1 => .ok q s1) (rel2 := rel2) (f := f) ?_ fun q s' φ' μ' H' v l rs' rl h' => k q s' φ' μ' H' v l rs' (re.up l) rl h'
  revert h
  generalize ev o e env s = r
  intro h
  cases r with
  | no => exact h
  | ex c d s' => exact h
  | ok p s' =>
    simp only [R.bind_ok] at h ⊢
    cases q : sqP p s' with
    | none => rw [q] at h; exact h
    | some y => rw [q] at h; exact h
theorem bq_core {f : Bq} {a : E} {e : Expr} (hf : f ≠ .list ∧ f ≠ .sorted) (h : PE X e (tCB (rBq X.K f) (tCons (rdQ X.K xc o W a) tNil))) : PE X e (rdP X.K xc o W (.bq f a)) := by
  refine PE.imp h fun σ H Q => ?_
  rintro ⟨φ, μ, env, s, rs, re, h⟩
  simp only [ev] at h
  rw [if_neg hf.1] at h
  refine seqq rs re h fun q s1 φ1 μ1 H1 v l1 rs1 re1 rq h1 => ?_
  have h2 : Fin X.K W (relP X.K) φ1 μ1 H1 σ (ofOv (bq f q.1 q.2) s1) Q := by
    cases f <;> first | exact h1 | exact absurd rfl hf.1 | exact absurd rfl hf.2
  obtain ⟨y, e, h3⟩ := fin_ofOv h2
  exact ⟨φ1, μ1, s1, q, y, v, rfl, rs1, rq, e, fun φ' μ' H' u l' rs' ru => h3 φ' μ' H' u l' rs' ru⟩
theorem mk_ints {K : PySem.W.Frag} {φ : Fz} {μ : List Addr} {H : Hp} : ∀ (ns : List Int), RelL K φ μ H (ns.map .int) (ns.map V.int)
  | [] => .nil
  | n :: ns => .cons mk_int (mk_ints ns)
theorem keys_rel {K : PySem.W.Frag} {φ : Fz} {μ : List Addr} {H : Hp} : ∀ (ks : List Ky), RelL K φ μ H (ks.map keyD) (ks.map kV)
  | [] => .nil
  | k :: ks => .cons (mk_key k) (keys_rel ks)
theorem sort_one {ns ms : List Int} (h : ms.Perm ns) (g : ms.Pairwise (· ≤ ·)) : ms = ns.mergeSort fun a b => decide (a ≤ b) := by
  refine List.Perm.eq_of_pairwise (le := (· ≤ ·)) (fun a b _ _ h1 h2 => Int.le_antisymm h1 h2) g ?_ (h.trans (List.mergeSort_perm ns _).symm)
  have := List.pairwise_mergeSort (le := fun (a b : Int) => decide (a ≤ b)) (fun a b c h1 h2 => decide_eq_true (Int.le_trans (of_decide_eq_true h1) (of_decide_eq_true h2))) (fun a b => by
    rcases Int.le_total a b with z | z <;> simp [z]) ns
  exact this.imp fun z => of_decide_eq_true z
theorem s_bq {m : Md} {f : Bq} {a : E} {e : Expr} (G : Good T xc o W k C X) (ia : IhE T xc o W C X a) (h : mtE T m C (.bq f a) e = true) : PE X e (rdP X.K xc o W (.bq f a)) := by
  simp only [mtE] at h
  split at h <;> first | cases h | skip
  rename_i x p l pos
  obtain ⟨h1, h2, h3⟩ := and3 h
  obtain ⟨e1, g1, g2⟩ := blt_ok G h1
  obtain ⟨b1', b2', b3, b4, b5, b6, b7, b8, b9, b10, b11, b12, b13, b14⟩ := blt_names
  have st := star_cons (es := []) (env := X.env) h3
  have pa := pa1 (to_Q (ia l h2)) h3
  subst e1
  cases f with
  | all => exact bq_core ⟨(fun z => nomatch z), (fun z => nomatch z)⟩ (pe_callB (call_all G.calm) g1 g2 b8 pa (by decide +kernel) (by decide +kernel) st rfl)
  | any => exact bq_core ⟨(fun z => nomatch z), (fun z => nomatch z)⟩ (pe_callB (call_any G.calm) g1 g2 b9 pa (by decide +kernel) (by decide +kernel) st rfl)
  | sum => exact bq_core ⟨(fun z => nomatch z), (fun z => nomatch z)⟩ (pe_callB (call_sum G.calm) g1 g2 b10 pa (by decide +kernel) (by decide +kernel) st rfl)
  | max => exact bq_core ⟨(fun z => nomatch z), (fun z => nomatch z)⟩ (pe_callB (call_maxq G.calm) g1 g2 b7 pa (by decide +kernel) (by decide +kernel) st rfl)
  | min => exact bq_core ⟨(fun z => nomatch z), (fun z => nomatch z)⟩ (pe_callB (call_minq G.calm) g1 g2 b6 pa (by decide +kernel) (by decide +kernel) st rfl)
  | tuple => exact bq_core ⟨(fun z => nomatch z), (fun z => nomatch z)⟩ (pe_callTy call_tupq g1 g2 b11 pa (by decide +kernel) (by decide +kernel) st rfl)
  | sorted =>
    refine PE.imp (pe_callB cr_sortedI g1 g2 PyProof.Rows.boot_sorted pa (by decide +kernel) (by decide +kernel) st rfl) fun σ H Q => ?_
    rintro ⟨φ, μ, env, s, rs, re, h⟩
    simp only [ev, reduceCtorEq, if_false] at h
    refine seqq rs re h fun q s1 φ1 μ1 H1 v l1 rs1 re1 rq h1 => ?_
    obtain ⟨a, vs, rfl, hs, rl⟩ := rq
    by_cases c : q.1 = true
    · rw [if_pos c] at h1; exact h1.elim
    · rw [if_neg c] at h1
      cases z : intsOf q.2 with
      | none => rw [z] at h1; exact h1.elim
      | some ns =>
        rw [z] at h1
        have e := ints_rel rl z
        subst e
        unfold SqA at hs
        rw [if_neg c] at hs
        refine ⟨a, ns, rfl, hs, fun ms p hp hw hn => ?_⟩
        rw [sort_one hp hw]
        exact new_fin h1 rs1 (mk_ints _) p hn
  | list =>
    refine PE.imp (pe_callTy (CallR.or call_list_of (call_listD G.calm)) g1 g2 b12 (pa1 (ia l h2) h3) (by decide +kernel) (by decide +kernel) st rfl) fun σ H Q => ?_
    rintro ⟨φ, μ, env, s, rs, re, h⟩
    simp only [ev, if_true] at h
    refine ⟨φ, μ, env, s, rs, re, Fin.bind h fun p s1 φ1 μ1 H1 v l1 rs1 rl h1 => ?_⟩
    cases z : listOf p s1 with
    | none => rw [z] at h1; exact h1.elim
    | some xs =>
    rw [z] at h1
    have key : (∃ q : Bool × List D, sqP p s1 = some q ∧ q.2 = xs) ∨ ∃ d kvs, p = .val d ∧ dicOf d s1 = some kvs ∧ xs = kvs.map fun q => keyD q.1 := by
      cases p with
      | val d =>
        simp only [listOf] at z
        cases z2 : sq d s1 with
        | some q => rw [z2] at z; exact .inl ⟨q, z2, Option.some.inj z⟩
        | none =>
          rw [z2] at z
          obtain ⟨kvs, e1, e2⟩ := Option.map_eq_some_iff.mp z
          exact .inr ⟨d, kvs, rfl, e1, e2.symm⟩
      | new ys => exact .inl ⟨(false, ys), rfl, Option.some.inj z⟩
      | rg ys => cases z
      | it ys => cases z
    rcases key with ⟨q, z2, rfl⟩ | ⟨d, kvs, rfl, z2, rfl⟩
    · obtain ⟨a, vs, rfl, hs, rl⟩ := sqP_rel rs1 rl z2
      refine .inl ⟨a, vs, rfl, ?_, new_fin h1 rs1 rl⟩
      unfold SqA at hs
      split at hs
      · exact .inr hs
      · exact .inl hs
    · obtain ⟨a, ws, rfl, g1, g2⟩ := dic_rel rs1 rl z2
      refine .inr ⟨a, ws, rfl, g1, new_fin h1 rs1 ?_⟩
      have e : (kvs.map fun q => keyD q.1) = (ws.map (·.1)).map keyD := by rw [g2.1, List.map_map]; rfl
      have e2 : (ws.map fun kv => kV kv.1) = (ws.map (·.1)).map kV := by rw [List.map_map]; rfl
      rw [e, e2]
      exact keys_rel _
/-! ### calls of functions -/
/-- a function of the table, called: what it promises is asked of the arguments -/
theorem pe_fnG {f : Addr} {fd : PySem.FuncData} {ps : List Str} {sp : Sp} {x : Str} {p pos : Pos} {l : Expr} {ls : List Expr} {t : TA} (F : FnG X.prog X.w X.K X.mg X.base k f fd ps sp) (hr : Room k X.A) (hgd : X.A.guards = some []) (tk : Takes X W)
    (hg : Gl X x) (hm : X.mg x = some (.ref f)) (hk : PySem.W.keepIn X.K (.ref f) = true) (hb : Binds X.K fd ps []) (ha : PA X (l :: ls) t) (hx : (x == ("__debug__" : Str)) = false) (h1 : notStar l = true) (h2 : noStars ls = true) :
    PE X (.Call (.Name x p) (l :: ls) [] pos) (fun σ H Q => t σ H fun vs H1 => sp vs H1 Q fun c d H2 => W c d σ H2) := by
  constructor
  intro pins s σ H Q I h
  refine wpAny_Call_Name_kw (ld_glob I hg hm ?_ hx)
  refine PySem.W.callWith_K (h₀ := X.base) I.ok.mod.kin hk (thn (ha.run pos pins s σ H _ I h) ?_) (star_cons h1) (noStars_back h2)
  rintro us s1 ⟨vs, H1, I1, r, q⟩
  refine ⟨I1.kIn, wpAny_call (codeAny_mono (F.run X.A X.stack s1 H1 ⟨us, []⟩ us vs Q _ hgd hr I1.env0 ?_ r q) ?_)⟩
  · have hl : (us ++ []).length = ps.length := by
      rw [List.append_nil, ← r.length]
      exact F.len _ _ _ _ q
    have := hb s1 us I1.kIn hl
    rw [List.append_nil] at this
    exact this
  · intro rr s' hq
    cases rr with
    | error e => exact tk e s' (XE.of_call I1 (fun _ _ _ z => z) hq)
    | ok fl =>
      cases fl with
      | ret u => exact I1.after hq
      | next => exact hq.elim
      | brk => exact hq.elim
      | cont => exact hq.elim
theorem pe_fnG0 {f : Addr} {fd : PySem.FuncData} {ps : List Str} {sp : Sp} {x : Str} {p pos : Pos} (F : FnG X.prog X.w X.K X.mg X.base k f fd ps sp) (hr : Room k X.A) (hgd : X.A.guards = some []) (tk : Takes X W)
    (hg : Gl X x) (hm : X.mg x = some (.ref f)) (hk : PySem.W.keepIn X.K (.ref f) = true) (hb : Binds X.K fd ps []) (hx : (x == ("__debug__" : Str)) = false) :
    PE X (.Call (.Name x p) [] [] pos) (fun σ H Q => sp [] H Q fun c d H2 => W c d σ H2) := by
  constructor
  intro pins s σ H Q I q
  refine wpAny_Call_Name_kw (ld_glob I hg hm ?_ hx)
  refine PySem.W.callWith_K0 I.kIn hk (wpAny_call (codeAny_mono (F.run X.A X.stack s H ⟨[], []⟩ [] [] Q _ hgd hr I.env0 ?_ .nil q) ?_))
  · have hl : (([] : List Value) ++ []).length = ps.length := F.len _ _ _ _ q
    exact hb s [] I.kIn hl
  · intro rr s' hq
    cases rr with
    | error e => exact tk e s' (XE.of_call I (fun _ _ _ z => z) hq)
    | ok fl =>
      cases fl with
      | ret u => exact I.after hq
      | next => exact hq.elim
      | brk => exact hq.elim
      | cont => exact hq.elim
/-- a function's end, in the expression -/
theorem fin_fn {K : PySem.W.Frag} {φ : Fz} {μ : List Addr} {H : Hp} {σ : St} {r : R D} {Q : V → Hp → Prop} (h : Fin K W (relP K) φ μ H σ (r.bind fun d s2 => okv d s2) Q) : Fin K (fun c d _ H' => W c d σ H') (RelD K) φ μ H [] r Q := by
  cases r with
  | no => exact h
  | ex c d s => exact h
  | ok d s => exact h
theorem s_fn {m : Md} {f : Nat} {es : Es} {e : Expr} (G : Good T xc o W k C X) (ih : ∀ e, EsHas es e → IhE T xc o W C X e) (h : mtE T m C (.fn f es) e = true) : PE X e (rdP X.K xc o W (.fn f es)) := by
  simp only [mtE] at h
  split at h <;> first | cases h | skip
  rename_i x p ls pos
  obtain ⟨h1, h2, h3, h4⟩ := and4 h
  obtain ⟨fa, fd, ps, g1, g2, g3, _, g4⟩ := G.call f x (of_decide_eq_true h1)
  have hgl : Gl X x := by
    show X.env.scope.names.lookup x = some .globalImplicit
    rw [G.sc]
    exact of_decide_eq_true h2
  have hx := (plain_dbg h3).1
  have fin : ∀ σ H Q, rdP X.K xc o W (.fn f es) σ H Q → rdA X.K xc o W es σ H fun vs H1 => spF X.K o f vs H1 Q fun c d H2 => W c d σ H2 := by
    rintro σ H Q ⟨φ, μ, env, s, rs, re, h⟩
    simp only [ev] at h
    exact ⟨φ, μ, env, s, rs, re, Fin.bind h fun ds s1 φ1 μ1 H1 vs l1 rs1 rl h1 => ⟨φ1, μ1, s1, ds, rs1, rl, fin_fn h1⟩⟩
  cases es with
  | nil =>
    cases ls with
    | cons _ _ => unfold mtEs at h4; cases h4
    | nil =>
      refine PE.imp (pe_fnG0 g4 (G.room.mono (by omega)) G.guards G.takes hgl g1 g2 g3 hx) fun σ H Q q => ?_
      obtain ⟨φ, μ, env, s, rs, re, h⟩ := fin σ H Q q
      simp only [evs] at h
      exact h.here rs .nil
  | cons a r =>
    cases ls with
    | nil => unfold mtEs at h4; cases h4
    | cons l ls =>
      have hs := mtEs_stars h4
      obtain ⟨hs1, hs2⟩ := and2 (show (notStar l && noStars ls) = true from hs)
      exact PE.imp (pe_fnG g4 (G.room.mono (by omega)) G.guards G.takes hgl g1 g2 g3 (s_es ih h4) hx hs1 hs2) fin
/-! ### methods -/
theorem few_args {ls : List Expr} {pos : Pos} {env : PySem.Env} (h : noStars ls = true) (hl : ls.length < 29) : ((backTo pos (starEach ls env)).all (fun x => !x.1) && (backToKw pos (keywordEach [] env)).all (fun x => x.1.isSome) && decide (ls.length + ([] : List Keyword).length + (if ([] : List Keyword).isEmpty then 0 else 1) < 30)) = true := by
  have a : (backTo pos (starEach ls env)).all (fun x => !x.1) = true := by
    have := noStars_back (env := env) (pos := pos) h
    rw [List.all_eq_true]
    rw [List.any_eq_false] at this
    intro x hx
    have := this x hx
    simpa using this
  rw [a]
  have b : decide (ls.length + ([] : List Keyword).length + (if ([] : List Keyword).isEmpty then 0 else 1) < 30) = true := decide_eq_true (by show ls.length + 0 + 0 < 30; omega)
  rw [b]
  rfl
theorem s_m {m : Md} {f : Mt} {a : E} {es : Es} {e : Expr} (ia : IhE T xc o W C X a) (ih : ∀ e, EsHas es e → IhE T xc o W C X e) (h : mtE T m C (.m f a es) e = true) : PE X e (rdP X.K xc o W (.m f a es)) := by
  simp only [mtE] at h
  split at h <;> first | cases h | skip
  rename_i ob name apos ls pos
  simp only [Bool.and_eq_true] at h
  obtain ⟨⟨⟨⟨⟨h1, h2⟩, h3⟩, h4⟩, h5⟩, h6⟩ := h
  have e1 := of_decide_eq_true h1
  have h4 := of_decide_eq_true h4
  subst e1
  obtain ⟨f1, f2, f3⟩ := mt_facts f
  have po := to_E (ia ob h5)
  -- what is read, in common
  have core : ∀ σ H Q, rdP X.K xc o W (.m f a es) σ H Q → rdE X.K xc o W a σ H fun x H1 => tyV X.K (mtT f) x H1 ∧ rdA X.K xc o W es σ H1 fun vs H2 => rMt X.K f x vs H2 Q := by
    rintro σ H Q ⟨φ, μ, env, s, rs, re, h⟩
    simp only [ev] at h
    refine seqv rs re h fun x s1 φ1 μ1 H1 v l1 rs1 re1 rd1 h1 => ?_
    by_cases c : mtTy f x s1 = true
    · rw [if_pos c] at h1
      refine ⟨ty_of rs1 rd1 c, φ1, μ1, env, s1, rs1, re1, Fin.bind h1 fun ds s2 φ2 μ2 H2 vs l2 rs2 rl h2 => ?_⟩
      cases q : mthR f x ds s2 with
      | none => rw [q] at h2; exact h2.elim
      | some r =>
        rw [q] at h2
        exact ⟨φ2, μ2, s2, x, ds, r, rs2, rd1.up l2, rl, q, fun φ' μ' H' w l' rs' rp => h2 φ' μ' H' w l' rs' rp⟩
    · rw [if_neg c] at h1
      exact h1.elim
  cases es with
  | nil =>
    cases ls with
    | cons _ _ => unfold mtEs at h6; cases h6
    | nil =>
      refine PE.imp (pe_bm0 f1 f2 f3 (mt_rule f) po (base_plain h3) h2) fun σ H Q q => ?_
      obtain ⟨φ, μ, env, s, rs, re, q⟩ := core σ H Q q
      refine ⟨φ, μ, env, s, rs, re, ?_⟩
      revert q
      generalize evv o a env s = r
      intro q
      cases r with
      | no => exact q
      | ex c d s' => exact q
      | ok d s' =>
        intro φ' μ' H' v l rs' rd
        obtain ⟨t, φ2, μ2, env2, s2, rs2, re2, q2⟩ := q φ' μ' H' v l rs' rd
        simp only [evs] at q2
        exact ⟨t, q2.here rs2 .nil⟩
  | cons b r =>
    cases ls with
    | nil => unfold mtEs at h6; cases h6
    | cons l ls =>
      have hs := mtEs_stars h6
      obtain ⟨hs1, hs2⟩ := and2 (show (notStar l && noStars ls) = true from hs)
      exact PE.imp (pe_bm f1 f2 f3 (mt_rule f) po (s_es ih h6) (base_plain h3) (few_args hs h4) h2 (star_cons hs1) (noStars_back hs2)) core
/-! ### calls by keywords -/
theorem RelL.perm {K : PySem.W.Frag} {φ : Fz} {μ : List Addr} {H : Hp} {ds : List D} {vs : List V} (r : RelL K φ μ H ds vs) : ∀ {p : List Nat} {ds' : List D}, permOf ds p = some ds' → ∃ vs', permOf vs p = some vs' ∧ RelL K φ μ H ds' vs'
  | [], _, h => by cases h; exact ⟨[], rfl, .nil⟩
  | i :: p, ds', h => by
    unfold permOf at h
    cases q1 : ds[i]? with
    | none => rw [q1] at h; cases h
    | some d =>
      cases q2 : permOf ds p with
      | none => rw [q1, q2] at h; cases h
      | some l =>
        rw [q1, q2] at h
        cases h
        obtain ⟨v, e1, r1⟩ := r.get q1
        obtain ⟨vs', e2, r2⟩ := r.perm q2
        exact ⟨v :: vs', by unfold permOf; rw [e1, e2], .cons r1 r2⟩
theorem vals_perm {vs : List V} {us : List Value} (r : Vals vs us) : ∀ {p : List Nat} {vs' : List V}, permOf vs p = some vs' → ∃ us', permOf us p = some us' ∧ Vals vs' us'
  | [], _, h => by cases h; exact ⟨[], rfl, .nil⟩
  | i :: p, vs', h => by
    unfold permOf at h
    cases q1 : vs[i]? with
    | none => rw [q1] at h; cases h
    | some d =>
      cases q2 : permOf vs p with
      | none => rw [q1, q2] at h; cases h
      | some l =>
        rw [q1, q2] at h
        cases h
        obtain ⟨u, e1, r1⟩ := r.get q1
        obtain ⟨us', e2, r2⟩ := vals_perm r q2
        exact ⟨u :: us', by unfold permOf; rw [e1, e2], .cons r1 r2⟩
theorem s_ks : ∀ {es : Es} {ns : List Str} {ls : List Keyword}, (∀ e, EsHas es e → IhE T xc o W C X e) → mtKs T C es ns ls = true → PK X ls (rdA X.K xc o W es) ∧ es.len = ns.length
  | .nil, [], [], _, _ => ⟨⟨fun pos pins s σ H Q I ⟨φ, μ, env, s0, rs, re, h⟩ => pk_nil.run pos pins s σ H Q I (by simp only [evs] at h; exact h.here rs .nil)⟩, rfl⟩
  | .nil, [], _ :: _, _, h => by unfold mtKs at h; cases h
  | .nil, _ :: _, _, _, h => by unfold mtKs at h; cases h
  | .cons _ _, [], _, _, h => by unfold mtKs at h; cases h
  | .cons _ _, _ :: _, [], _, h => by unfold mtKs at h; cases h
  | .cons _ _, _ :: _, ⟨none, _, _⟩ :: _, _, h => by unfold mtKs at h; cases h
  | .cons a r, n :: ns, ⟨some m, l, p⟩ :: ls, ih, h => by
    unfold mtKs at h
    obtain ⟨h1, h2, h3⟩ := and3 h
    obtain ⟨k1, k2⟩ := s_ks (fun e he => ih e (.tail he)) h3
    refine ⟨⟨fun pos pins s σ H Q I ⟨φ, μ, env, s0, rs, re, h⟩ => (pk_cons (to_E (ih a .head l h2)) k1).run pos pins s σ H Q I ?_⟩, by unfold Es.len; rw [k2]; rfl⟩
    simp only [evs] at h
    refine seqv rs re h fun d s1 φ1 μ1 H1 v l1 rs1 re1 rd1 h1 => ?_
    exact ⟨φ1, μ1, env, s1, rs1, re1, Fin.bind h1 fun ds s2 φ2 μ2 H2 vs l2 rs2 rl h2 => h2.here rs2 (.cons (rd1.up l2) rl)⟩
theorem ks_names {pos : Pos} {env : PySem.Env} : ∀ {es : Es} {ns : List Str} {ls : List Keyword}, mtKs T C es ns ls = true → (backToKw pos (keywordEach ls env)).all (·.1.isSome) = true ∧ (backToKw pos (keywordEach ls env)).filterMap (·.1) = ns ∧ (backToKw pos (keywordEach ls env)).any (·.1.isNone) = false
  | .nil, [], [], _ => ⟨rfl, rfl, rfl⟩
  | .nil, [], _ :: _, h => by unfold mtKs at h; cases h
  | .nil, _ :: _, _, h => by unfold mtKs at h; cases h
  | .cons _ _, [], _, h => by unfold mtKs at h; cases h
  | .cons _ _, _ :: _, [], h => by unfold mtKs at h; cases h
  | .cons _ _, _ :: _, ⟨none, _, _⟩ :: _, h => by unfold mtKs at h; cases h
  | .cons a r, n :: ns, ⟨some m, l, p⟩ :: ls, h => by
    unfold mtKs at h
    obtain ⟨h1, h2, h3⟩ := and3 h
    obtain ⟨k1, k2, k3⟩ := ks_names (pos := pos) (env := env) h3
    have e := of_decide_eq_true h1
    subst e
    unfold backToKw at k1 k2 k3 ⊢
    simp only [keywordEach, List.map_cons, List.all_cons, List.any_cons, List.filterMap_cons, k1, k2, k3, Option.isSome_some, Option.isNone_some, Bool.and_self, Bool.or_self, and_self]
theorem pe_fnK {f : Addr} {fd : PySem.FuncData} {ps : List Str} {sp : Sp} {x : Str} {p pos : Pos} {kw : Keyword} {kws : List Keyword} {q : List Str × List Nat} {t : TA} (F : FnG X.prog X.w X.K X.mg X.base k f fd ps sp) (hr : Room k X.A) (hgd : X.A.guards = some []) (tk : Takes X W)
    (hg : Gl X x) (hm : X.mg x = some (.ref f)) (hk : PySem.W.keepIn X.K (.ref f) = true) (hb : KB X.K fd ps q) (ha : PK X (kw :: kws) t) (hx : (x == ("__debug__" : Str)) = false)
    (n1 : (backToKw pos (keywordEach (kw :: kws) X.env)).all (·.1.isSome) = true) (n2 : (backToKw pos (keywordEach (kw :: kws) X.env)).filterMap (·.1) = q.1) (n3 : (backToKw pos (keywordEach (kw :: kws) X.env)).any (·.1.isNone) = false) :
    PE X (.Call (.Name x p) [] (kw :: kws) pos) (fun σ H Q => t σ H fun vs H1 => vs.length = q.1.length ∧ ∃ zs, permOf vs q.2 = some zs ∧ sp zs H1 Q fun c d H2 => W c d σ H2) := by
  constructor
  intro pins s σ H Q I h
  refine wpAny_Call_Name_kw (ld_glob I hg hm ?_ hx)
  refine PySem.W.callWith_KW0 (h₀ := X.base) I.ok.mod.kin hk n1 (thn (ha.run pos pins s σ H _ I h) ?_) (by rw [n3]; rfl)
  rintro us s1 ⟨vs, H1, I1, r, hl, zs, hz, qq⟩
  refine ⟨I1.kIn, ?_⟩
  rw [n2]
  obtain ⟨ws, e1, r1⟩ := vals_perm r hz
  refine wpAny_call (codeAny_mono (F.run X.A X.stack s1 H1 ⟨[], q.1.zip us⟩ ws zs Q _ hgd hr I1.env0 (hb s1 us ws I1.kIn (by rw [← r.length]; exact hl) e1) r1 qq) ?_)
  intro rr s' hq
  cases rr with
  | error e => exact tk e s' (XE.of_call I1 (fun _ _ _ z => z) hq)
  | ok fl =>
    cases fl with
    | ret u => exact I1.after hq
    | next => exact hq.elim
    | brk => exact hq.elim
    | cont => exact hq.elim
theorem s_fnk {m : Md} {f : Nat} {es : Es} {ns : List Str} {pm : List Nat} {e : Expr} (G : Good T xc o W k C X) (ih : ∀ e, EsHas es e → IhE T xc o W C X e) (h : mtE T m C (.fnk f es ns pm) e = true) : PE X e (rdP X.K xc o W (.fnk f es ns pm)) := by
  simp only [mtE] at h
  split at h <;> first | cases h | skip
  rename_i x p kw kws pos
  simp only [Bool.and_eq_true] at h
  obtain ⟨⟨⟨⟨h1, h2⟩, h3⟩, h4⟩, h5⟩ := h
  obtain ⟨fa, fd, ps, g1, g2, g3, gk, g4⟩ := G.call f x (of_decide_eq_true h1)
  have hgl : Gl X x := by
    show X.env.scope.names.lookup x = some .globalImplicit
    rw [G.sc]
    exact of_decide_eq_true h2
  obtain ⟨k1, k2⟩ := s_ks (X := X) (xc := xc) (o := o) (W := W) ih h5
  obtain ⟨n1, n2, n3⟩ := ks_names (pos := pos) (env := X.env) h5
  refine PE.imp (pe_fnK (q := (ns, pm)) g4 (G.room.mono (by omega)) G.guards G.takes hgl g1 g2 (gk _ (of_decide_eq_true h4)) k1 (plain_dbg h3).1 n1 n2 n3) ?_
  rintro σ H Q ⟨φ, μ, env, s, rs, re, h⟩
  simp only [ev] at h
  have hlen := evs_len o es env s
  refine ⟨φ, μ, env, s, rs, re, ?_⟩
  revert h hlen
  generalize evs o es env s = r
  intro h hlen
  cases r with
  | no => exact h.elim
  | ex c d s' => exact h
  | ok ds s1 =>
    have hd := hlen ds s1 rfl
    simp only [Mi.R.bind_ok] at h
    intro φ1 μ1 H1 vs l1 rs1 rl
    cases q : permOf ds pm with
    | none => rw [q] at h; exact h.elim
    | some ds' =>
      rw [q] at h
      simp only [R.ofO_some, Mi.R.bind_ok] at h
      obtain ⟨zs, e1, r1⟩ := rl.perm q
      refine ⟨by rw [← rl.length, hd]; exact k2, zs, e1, ?_⟩
      exact ⟨φ1, μ1, s1, ds', rs1, r1, fin_fn (Fin.up l1 h)⟩
/-! ### what a loop goes along -/
/-- a list that a source stands for -/
def relA (K : PySem.W.Frag) (φ : Fz) (μ : List Addr) (H : Hp) : Src → Addr → Prop
  | .fix ds, a => ∃ vs, FzL K φ H a vs ∧ RelL K φ μ H ds vs
  | .at_ n _, a => μ[n]? = some a
  | _, _ => False
/-- the walk of an iterator, by the tree -/
def relI (K : PySem.W.Frag) : Rl Src It := fun φ μ H src J => match src with
  | .fix ds => ∀ (i : Nat) φ' μ' H', Le K φ μ H φ' μ' H' → (∀ d, ds[i]? = some d → J.go i H') ∧
      (∀ d x H'' s, ds[i]? = some d → RelS K φ' μ' H' s → J.yld i H' x H'' → Le K φ' μ' H' φ' μ' H'' ∧ RelS K φ' μ' H'' s ∧ RelD K φ' μ' H'' d x) ∧ (ds.length ≤ i → J.stop i H')
  | .at_ n _ => ∃ a, μ[n]? = some a ∧ J = Itl K a
  | .zip p q => (∃ a b, relA K φ μ H p a ∧ relA K φ μ H q b ∧ J = Itz K a b) ∨ ∃ xs ys a b vs us, p = .fix xs ∧ q = .fix ys ∧ SqT K H a vs ∧ RelL K φ μ H xs vs ∧ SqT K H b us ∧ RelL K φ μ H ys us ∧ J = RZ.ItzT K a b
  | .enu p => (∃ a, relA K φ μ H p a ∧ J = Ite K a) ∨ ∃ xs a vs, p = .fix xs ∧ SqT K H a vs ∧ RelL K φ μ H xs vs ∧ J = ET.ItT K a
theorem relA_now {K : PySem.W.Frag} {φ φ' : Fz} {μ μ' : List Addr} {H H' : Hp} {src : Src} {a : Addr} {s : Sto} (h : relA K φ μ H src a) (l : Le K φ μ H φ' μ' H') (rs : RelS K φ' μ' H' s) (hok : srcOk src s = true) :
    ∃ vs ds, SqL K H' a vs ∧ RelL K φ' μ' H' ds vs ∧ (∀ i, srcGet src i s = ds[i]?) ∧ ∀ i, srcEnd src i s = true → ds.length ≤ i := by
  cases src with
  | fix ds =>
    obtain ⟨vs, h1, h2⟩ := h
    exact ⟨vs, ds, (h1.up l).sq, h2.up l, fun i => rfl, fun i e => of_decide_eq_true e⟩
  | at_ n len =>
    have e2 := get_pre l.pl (show μ[n]? = some a from h)
    obtain ⟨c, hc⟩ : ∃ c, s[n]? = some c := by
      have hn := (List.getElem?_eq_some_iff.mp e2).1
      rw [rs.len] at hn
      exact ⟨_, List.getElem?_eq_getElem hn⟩
    cases c with
    | lst xs =>
      obtain ⟨vs, g1, g2⟩ := rs.cell n _ a hc e2
      exact ⟨vs, xs, SqL.of g1, g2, fun i => by simp only [srcGet, hc], fun i e => by simp only [srcEnd, hc] at e; exact of_decide_eq_true e⟩
    | dk _ => simp only [srcOk, hc] at hok; cases hok
    | lk _ => simp only [srcOk, hc] at hok; cases hok
    | ins _ _ => simp only [srcOk, hc] at hok; cases hok
  | zip p q => exact h.elim
  | enu p => exact h.elim
theorem ok_get {K : PySem.W.Frag} {φ : Fz} {μ : List Addr} {H : Hp} {src : Src} {a : Addr} {s : Sto} {i : Nat} {d : D} (h : relA K φ μ H src a) (e : srcGet src i s = some d) : srcOk src s = true := by
  cases src with
  | fix ds => rfl
  | zip _ _ => exact h.elim
  | enu _ => exact h.elim
  | at_ n k =>
    simp only [srcGet] at e
    simp only [srcOk]
    split at e
    · rfl
    · cases e
theorem ok_end {K : PySem.W.Frag} {φ : Fz} {μ : List Addr} {H : Hp} {src : Src} {a : Addr} {s : Sto} {i : Nat} (h : relA K φ μ H src a) (e : srcEnd src i s = true) : srcOk src s = true := by
  cases src with
  | fix ds => rfl
  | zip _ _ => exact h.elim
  | enu _ => exact h.elim
  | at_ n k =>
    simp only [srcEnd] at e
    simp only [srcOk]
    split at e
    · rfl
    · cases e
theorem pair_new {K : PySem.W.Frag} {φ : Fz} {μ : List Addr} {H : Hp} {s : Sto} {t : Addr} {a b : D} {x y : V} (rs : RelS K φ μ H s) (ht : H t = none) (ra : RelD K φ μ H a x) (rb : RelD K φ μ H b y) :
    Le K φ μ H φ μ (upd H t (.tup [x, y])) ∧ RelS K φ μ (upd H t (.tup [x, y])) s ∧ RelD K φ μ (upd H t (.tup [x, y])) (.tup [a, b]) (.ref t) := by
  have l := Le.new (K := K) (φ := φ) (μ := μ) (o := .tup [x, y]) ht rs.here
  exact ⟨l, rs.beside ht, mk_tup (SqT.of upd_same) (.cons (ra.up l) (.cons (rb.up l) .nil))⟩
def rdI (K : PySem.W.Frag) (xc : XcT) (o : Orc) (W : WX) (e : E) : TI := fun σ H R => ∃ φ μ env s, RelS K φ μ H s ∧ RelE xc K φ μ H env σ ∧ Fin K W (relI K) φ μ H σ (evi o e env s) R
theorem PI.imp {tg e : Expr} {t t' : TI} (h : PI X tg e t) (i : ∀ σ H R, t' σ H R → t σ H R) : PI X tg e t' := ⟨fun pins s σ H R I q => h.run pins s σ H R I (i σ H R q)⟩
theorem PI.or {tg e : Expr} {t t' : TI} (h : PI X tg e t) (h' : PI X tg e t') : PI X tg e (fun σ H R => t σ H R ∨ t' σ H R) := ⟨fun pins s σ H R I q => q.elim (h.run pins s σ H R I) (h'.run pins s σ H R I)⟩
/-- a list that stays, walked -/
theorem relI_list {K : PySem.W.Frag} {φ : Fz} {μ : List Addr} {H : Hp} {a : Addr} {vs : List V} {ds : List D} (h : FzL K φ H a vs) (r : RelL K φ μ H ds vs) : relI K φ μ H (.fix ds) (Itl K a) := by
  intro i φ' μ' H' l
  have h' := (h.up l).sq
  have r' := r.up l
  refine ⟨fun d e => ?_, fun d x H'' s e rs y => ?_, fun hi => ⟨vs, h', by rw [← r.length]; exact hi⟩⟩
  · obtain ⟨v, e1, _⟩ := r'.get e
    exact ⟨vs, v, h', e1⟩
  · obtain ⟨e0, e1⟩ := y
    subst e0
    obtain ⟨v, e2, rd⟩ := r'.get e
    have := e1 vs h'
    rw [e2] at this
    cases this
    exact ⟨Le.refl, rs, rd⟩
theorem relI_tup {K : PySem.W.Frag} {φ : Fz} {μ : List Addr} {H : Hp} {a : Addr} {vs : List V} {ds : List D} (h : SqT K H a vs) (r : RelL K φ μ H ds vs) : relI K φ μ H (.fix ds) (Itt K a) := by
  intro i φ' μ' H' l
  have h' := l.tup a vs h
  have r' := r.up l
  refine ⟨fun d e => ?_, fun d x H'' s e rs y => ?_, fun hi => ⟨vs, h', by rw [← r.length]; exact hi⟩⟩
  · obtain ⟨v, e1, _⟩ := r'.get e
    exact ⟨vs, v, h', e1⟩
  · obtain ⟨e0, e1⟩ := y
    subst e0
    obtain ⟨v, e2, rd⟩ := r'.get e
    have := e1 vs h'
    rw [e2] at this
    cases this
    exact ⟨Le.refl, rs, rd⟩
/-- a dict that stays, walked -/
theorem relI_keys {K : PySem.W.Frag} {φ : Fz} {μ : List Addr} {H : Hp} {a : Addr} {ob : Obj} {ws : List (Key × V)} (h : H a = some (.frz ob (.dK ws))) : relI K φ μ H (.fix ((ws.map (·.1)).map keyD)) (Itk a ob ws) := by
  intro i φ' μ' H' l
  have h' := l.frz a _ _ h
  refine ⟨fun d e => ⟨h', ?_⟩, fun d x H'' s e rs y => ?_, fun hi => ⟨h', by simpa using hi⟩⟩
  · have := (List.getElem?_eq_some_iff.mp e).1
    simpa using this
  · obtain ⟨e0, k, v, e1, e2⟩ := y
    subst e0 e2
    rw [List.map_map, List.getElem?_map, e1] at e
    cases e
    exact ⟨Le.refl, rs, mk_key k⟩
theorem relI_vals {K : PySem.W.Frag} {φ : Fz} {μ : List Addr} {H : Hp} {a : Addr} {ob : Obj} {ws : List (Key × V)} {ds : List D} (h : H a = some (.frz ob (.dK ws))) (r : RelL K φ μ H ds (ws.map (·.2))) : relI K φ μ H (.fix ds) (Itd a ob ws) := by
  intro i φ' μ' H' l
  have h' := l.frz a _ _ h
  have hl := r.length
  rw [List.length_map] at hl
  refine ⟨fun d e => ⟨h', ?_⟩, fun d x H'' s e rs y => ?_, fun hi => ⟨h', by omega⟩⟩
  · have := (List.getElem?_eq_some_iff.mp e).1
    omega
  · obtain ⟨e0, k, e1⟩ := y
    subst e0
    obtain ⟨v, e2, rd⟩ := (r.up l).get e
    rw [List.getElem?_map, e1] at e2
    cases e2
    exact ⟨Le.refl, rs, rd⟩
theorem relI_items {K : PySem.W.Frag} {φ : Fz} {μ : List Addr} {H : Hp} {a : Addr} {ob : Obj} {ws : List (Key × V)} {kvs : List (Ky × D)} (h : H a = some (.frz ob (.dK ws))) (r : RelM K φ μ H kvs ws) : relI K φ μ H (.fix (kvs.map fun q => .tup [keyD q.1, q.2])) (Iti a ob ws) := by
  intro i φ' μ' H' l
  have h' := l.frz a _ _ h
  have hl := r.length
  refine ⟨fun d e => ⟨h', ?_⟩, fun d x H'' s e rs y => ?_, fun hi => ⟨h', by rw [List.length_map] at hi; omega⟩⟩
  · have := (List.getElem?_eq_some_iff.mp e).1
    rw [List.length_map] at this
    omega
  · obtain ⟨t, k, v, e1, e2, ht, e3⟩ := y
    subst e2 e3
    rw [List.getElem?_map] at e
    obtain ⟨q, e4, e5⟩ := Option.map_eq_some_iff.mp e
    subst e5
    have ek : q.1 = k := by
      have g1 : (ws.map (·.1))[i]? = some k := by rw [List.getElem?_map, e1]; rfl
      rw [r.1, List.getElem?_map, e4] at g1
      exact Option.some.inj g1
    have ev : ∃ w, (ws.map (·.2))[i]? = some w ∧ RelD K φ μ H q.2 w := r.2.get (by rw [List.getElem?_map, e4]; rfl)
    obtain ⟨w, w1, w2⟩ := ev
    rw [List.getElem?_map, e1] at w1
    cases w1
    rw [ek]
    exact pair_new rs ht (mk_key k) (w2.up l)
/-- a new list is set aside -/
theorem RelS.aside {K : PySem.W.Frag} {φ : Fz} {μ : List Addr} {H : Hp} {s : Sto} {a : Addr} (t : Bool) (rs : RelS K φ μ H s) (h : ∃ u, H a = some u ∧ ∀ ps, u ≠ .tbl ps) (n1 : ∀ b, (b, a) ∉ φ) (n2 : a ∉ μ) : RelS K ((t, a) :: φ) μ H s ∧ Le K φ μ H ((t, a) :: φ) μ H := by
  have l : Le K φ μ H ((t, a) :: φ) μ H := ⟨fun x hx => List.mem_cons_of_mem _ hx, List.prefix_refl _, fun _ _ z => z, fun _ _ _ z => z, fun _ _ => rfl, fun _ _ z => z⟩
  refine ⟨⟨rs.nd, rs.len, fun n c b e1 e2 => (rs.cell n c b e1 e2).up_but l rfl, fun b hb => ?_, fun b hb => ?_, fun b hb hc => ?_, rs.tabs, fun b hb ps => ?_⟩, l⟩
  · rcases List.mem_cons.mp hb with rfl | hb
    · exact n2
    · exact rs.apart b hb
  · rcases List.mem_cons.mp hb with rfl | hb
    · obtain ⟨u, hu, _⟩ := h; exact fun z => by rw [hu] at z; cases z
    · exact rs.here b hb
  · rcases List.mem_cons.mp hb with e | hb'
    · rcases List.mem_cons.mp hc with e2 | hc'
      · rw [← e2] at e; cases e
      · cases e; exact n1 _ hc'
    · rcases List.mem_cons.mp hc with e2 | hc'
      · cases e2; exact n1 _ hb'
      · exact rs.one b hb' hc'
  · rcases List.mem_cons.mp hb with rfl | hb
    · obtain ⟨u, hu, hn⟩ := h
      exact fun z => by rw [hu] at z; cases z; exact hn _ rfl
    · exact rs.nt b hb ps
theorem rel_val_src {K : PySem.W.Frag} {φ : Fz} {μ : List Addr} {H : Hp} {s : Sto} {d : D} {v : V} {src : Src} (rs : RelS K φ μ H s) (rd : RelD K φ μ H d v) (h : srcP (.val d) s = some src) :
    (∃ xs a vs, d = .tup xs ∧ src = .fix xs ∧ v = .ref a ∧ SqT K H a vs ∧ RelL K φ μ H xs vs) ∨ (∃ x, d = .str x ∧ src = .fix (chars x) ∧ v = .str x) ∨ (∃ a vs, v = .ref a ∧ (∀ xs, d ≠ .tup xs) ∧ (∀ x, d ≠ .str x) ∧ SqL K H a vs ∧ relI K φ μ H src (Itl K a)) ∨ ∃ ks ds, d = .fdk ks ds := by
  cases d <;> first | (simp [srcP] at h; done) | skip
  · rename_i x
    cases h
    exact .inr (.inl ⟨x, rfl, rfl, relD_str rd⟩)
  · rename_i xs
    cases h
    obtain ⟨a, vs, e, h1, h2⟩ := relD_tup rd
    exact .inl ⟨xs, a, vs, rfl, rfl, e, h1, h2⟩
  · rename_i xs
    cases h
    obtain ⟨a, vs, e, h1, h2⟩ := relD_flst rd
    exact .inr (.inr (.inl ⟨a, vs, e, (fun _ z => nomatch z), (fun _ z => nomatch z), h1.sq, relI_list h1 h2⟩))
  · rename_i n
    obtain ⟨a, e, h1⟩ := relD_loc rd
    simp only [srcP] at h
    cases z : s[n]? with
    | none => rw [z] at h; cases h
    | some c =>
      rw [z] at h
      cases c with
      | lst xs =>
        cases h
        obtain ⟨vs, e1, e2⟩ := rs.cell n _ a z h1
        exact .inr (.inr (.inl ⟨a, vs, e, (fun _ z => nomatch z), (fun _ z => nomatch z), SqL.of e1, ⟨a, h1, rfl⟩⟩))
      | dk _ => cases h
      | lk _ => cases h
      | ins _ _ => cases h
  · exact .inr (.inr (.inr ⟨_, _, rfl⟩))
/-- the signs of a text, gone along -/
theorem relI_str {K : PySem.W.Frag} {φ : Fz} {μ : List Addr} {H : Hp} {x : Str} : relI K φ μ H (.fix (chars x)) (Its x) := by
  intro i φ' μ' H' l
  have len : (chars x).length = x.cps.size := by unfold chars; rw [List.length_map, Array.length_toList]
  have at_ : ∀ d, (chars x)[i]? = some d → ∃ c, x.cps[i]? = some c ∧ d = .str ⟨#[c]⟩ := fun d e => by
    unfold chars at e
    rw [List.getElem?_map, Array.getElem?_toList] at e
    obtain ⟨c, e1, e2⟩ := Option.map_eq_some_iff.mp e
    exact ⟨c, e1, e2.symm⟩
  refine ⟨fun d e => ?_, fun d y H'' s e rs yl => ?_, fun hi => by rw [len] at hi; exact hi⟩
  · have := (List.getElem?_eq_some_iff.mp e).1
    rw [len] at this
    exact this
  · obtain ⟨c, e1, e2⟩ := at_ d e
    obtain ⟨y1, c2, y2, y3⟩ := yl
    subst y1 e2
    rw [e1] at y2
    cases y2
    rw [y3]
    exact ⟨Le.refl, rs, mk_str⟩
/-- a value's items, gone along -/
theorem pi_val {tg e' : Expr} {e : E} (h : PE X e' (rdP X.K xc o W e)) : PI X tg e' (rdI X.K xc o W e) := by
  refine PI.imp (PI.or (PI.or (PI.or (pi_list h) (pi_tup h)) (pi_str h)) (pi_keys h)) fun σ H S => ?_
  rintro ⟨φ, μ, env, s, rs, re, h⟩
  by_cases hk : ∃ ks ds s', ev o e env s = .ok (.val (.fdk ks ds)) s'
  · obtain ⟨ks, ds, s', et⟩ := hk
    refine .inr ⟨φ, μ, env, s, rs, re, ?_⟩
    unfold evi at h
    rw [et] at h ⊢
    intro φ' μ' H' v l rs' rd
    obtain ⟨a, ob, ws, e1, h1, h2, h3⟩ := relD_fdk (show RelD X.K φ' μ' H' (.fdk ks ds) v from rd)
    subst h2
    exact ⟨a, ob, e1, .inl ⟨ws, h1, h φ' μ' H' _ l rs' (relI_keys h1)⟩⟩
  refine .inl ?_
  by_cases hs : ∃ x s', ev o e env s = .ok (.val (.str x)) s'
  · obtain ⟨x, s', et⟩ := hs
    refine .inr ⟨φ, μ, env, s, rs, re, ?_⟩
    unfold evi at h
    rw [et] at h ⊢
    intro φ' μ' H' v l rs' rd
    exact ⟨x, relD_str (show RelD X.K φ' μ' H' (.str x) v from rd), h φ' μ' H' _ l rs' relI_str⟩
  refine .inl ?_
  by_cases ht : ∃ xs s', ev o e env s = .ok (.val (.tup xs)) s'
  · obtain ⟨xs, s', et⟩ := ht
    refine .inr ⟨φ, μ, env, s, rs, re, ?_⟩
    unfold evi at h
    rw [et] at h ⊢
    intro φ' μ' H' v l rs' rd
    obtain ⟨a, vs, e1, h1, h2⟩ := relD_tup rd
    exact ⟨a, e1, ⟨vs, h1⟩, h φ' μ' H' _ l rs' (relI_tup h1 h2)⟩
  · refine .inl ⟨φ, μ, env, s, rs, re, ?_⟩
    unfold evi at h
    revert h ht hs hk
    generalize ev o e env s = r
    intro h hk hs ht
    cases r with
    | no => exact h
    | ex c d s' => exact h
    | ok p s' =>
      intro φ' μ' H' v l rs' rl
      simp only [R.bind_ok] at h
      obtain ⟨src, e1, h'⟩ := h.ofO
      cases p with
      | rg xs => exact rl.elim
      | it xs => exact rl.elim
      | new xs =>
        cases e1
        obtain ⟨a, vs, e2, h1, n1, n2, r⟩ := rl
        have q := rs'.aside (a := a) true ⟨_, h1, fun _ z => nomatch z⟩ n1 n2
        refine ⟨a, e2, ⟨vs, SqL.of h1⟩, h' ((true, a) :: φ') μ' H' _ (l.trans q.2) q.1 ?_⟩
        exact relI_list (.inl ⟨List.mem_cons_self, h1⟩) (r.up q.2)
      | val d =>
        rcases rel_val_src rs' rl e1 with ⟨xs, a, vs, e2, _⟩ | ⟨x, e2, _⟩ | ⟨a, vs, e2, _, _, h1, h2⟩ | ⟨ks, ds, e2⟩
        · exact absurd ⟨xs, s', by rw [e2]⟩ ht
        · exact absurd ⟨x, s', by rw [e2]⟩ hs
        · exact ⟨a, e2, ⟨vs, h1⟩, h' φ' μ' H' _ l rs' h2⟩
        · exact absurd ⟨ks, ds, s', by rw [e2]⟩ hk
/-- a range -/
theorem relI_range {K : PySem.W.Frag} {φ : Fz} {μ : List Addr} {H : Hp} {lo : Int} {n : Nat} {xs : List D} (hx : xs = (List.range n).map fun (k : Nat) => D.int (lo + (k : Int))) : relI K φ μ H (.fix xs) (Itr lo n) := by
  subst hx
  intro i φ' μ' H' l
  refine ⟨fun d e => ?_, fun d x H'' s e rs y => ?_, fun hi => ?_⟩
  · rw [List.getElem?_map] at e
    by_cases hi : i < n
    · exact hi
    · rw [List.getElem?_eq_none (by simpa using hi)] at e; cases e
  · obtain ⟨e0, e1⟩ := y
    subst e0 e1
    rw [List.getElem?_map] at e
    by_cases hi : i < n
    · rw [List.getElem?_range hi] at e
      cases e
      exact ⟨Le.refl, rs, mk_int⟩
    · rw [List.getElem?_eq_none (by simpa using hi)] at e; cases e
  · have : n ≤ i := by simpa using hi
    exact this
theorem rangeOf_cases {ds xs : List D} (h : rangeOf ds = some xs) : (∃ n : Int, ds = [.int n] ∧ n < 2 ^ 62 ∧ -(2 ^ 62) ≤ n ∧ xs = (List.range n.toNat).map fun (k : Nat) => D.int (k : Int)) ∨
    (∃ a n : Int, ds = [.int a, .int n] ∧ n < 2 ^ 62 ∧ -(2 ^ 62) ≤ n ∧ a < 2 ^ 62 ∧ -(2 ^ 62) ≤ a ∧ xs = (List.range (n - a).toNat).map fun (k : Nat) => D.int (a + (k : Int))) := by
  unfold rangeOf at h
  split at h
  · rename_i n
    split at h
    · rename_i c
      cases h
      exact .inl ⟨n, rfl, c.1, c.2, rfl⟩
    · cases h
  · rename_i a n
    split at h
    · rename_i c
      cases h
      exact .inr ⟨a, n, rfl, c.1, c.2.1, c.2.2.1, c.2.2.2, rfl⟩
    · cases h
  · cases h
theorem mtEs_len : ∀ {es : Es} {ls : List Expr}, mtEs T C es ls = true → ls.length = es.len
  | .nil, [], _ => rfl
  | .nil, _ :: _, h => by unfold mtEs at h; cases h
  | .cons e r, [], h => by unfold mtEs at h; cases h
  | .cons e r, l :: ls, h => by
    unfold mtEs at h
    obtain ⟨h1, h2, h3⟩ := and3 h
    rw [List.length_cons, mtEs_len h3]
    rfl
theorem pi_rng {tg e : Expr} {es : Es} (G : Good T xc o W k C X) (ih : ∀ e, EsHas es e → IhE T xc o W C X e) {m : Md} (h : mtE T m C (.rng es) e = true) : PI X tg e (rdI X.K xc o W (.rng es)) := by
  simp only [mtE] at h
  split at h <;> first | cases h | skip
  rename_i x p ls pos
  obtain ⟨_, h0, h2, h3⟩ := and4 h
  have h01 := of_decide_eq_true h0
  obtain ⟨e1, g1, g2⟩ := blt_ok G h2
  subst e1
  have pa := s_es ih h3
  have ev_eq : ∀ env s, evi o (.rng es) env s = (evs o es env s).bind fun ds s1 => (R.ofO (rangeOf ds) s1).bind fun xs s2 => .ok (.fix xs) s2 := fun env s => by
    unfold evi
    simp only [ev]
    generalize evs o es env s = r
    cases r with
    | no => rfl
    | ex c d s' => rfl
    | ok ds s' =>
      simp only [R.bind_ok]
      cases rangeOf ds <;> rfl
  have hl := mtEs_len h3
  have hs := mtEs_stars h3
  -- what is told of the arguments
  have fin : ∀ (σ : St) (H : Hp) (S : It → Hp → Prop), rdI X.K xc o W (.rng es) σ H S → rdA X.K xc o W es σ H fun vs H1 => (∃ n : Int, ls.length = 1 ∧ vs = [.int n] ∧ -(2 ^ 62) ≤ n ∧ n < 2 ^ 62 ∧ S (Itr 0 n.toNat) H1) ∨
      ∃ a n : Int, ls.length = 2 ∧ vs = [.int a, .int n] ∧ (-(2 ^ 62) ≤ a ∧ a < 2 ^ 62 ∧ -(2 ^ 62) ≤ n ∧ n < 2 ^ 62) ∧ S (Itr a (n - a).toNat) H1 := by
    rintro σ H S ⟨φ, μ, env, s, rs, re, h⟩
    rw [ev_eq] at h
    refine ⟨φ, μ, env, s, rs, re, ?_⟩
    have hlen := evs_len o es env s
    revert h hlen
    generalize evs o es env s = r
    intro h hlen
    cases r with
    | no => exact h
    | ex c d s' => exact h
    | ok ds s' =>
      have hd := hlen ds s' rfl
      intro φ1 μ1 H1 vs l1 rs1 rl
      simp only [Mi.R.bind_ok] at h
      cases q : rangeOf ds with
      | none => rw [q] at h; exact h.elim
      | some xs =>
        rw [q] at h
        simp only [Mi.R.ofO_some, Mi.R.bind_ok] at h
        rcases rangeOf_cases q with ⟨n, e1, c1, c2, e2⟩ | ⟨a, n, e1, c1, c2, c3, c4, e2⟩
        · subst e1
          obtain ⟨v, vr, rfl, r1, r2⟩ := rl.of_cons
          have e0 := r2.of_nil
          subst e0
          rw [relD_int r1]
          exact .inl ⟨n, by rw [hl, ← hd]; rfl, rfl, c2, c1, h φ1 μ1 H1 _ l1 rs1 (relI_range (by rw [e2]; simp))⟩
        · subst e1
          obtain ⟨v, vr, rfl, r1, r2⟩ := rl.of_cons
          obtain ⟨u, ur, rfl, r3, r4⟩ := r2.of_cons
          have e0 := r4.of_nil
          subst e0
          rw [relD_int r1, relD_int r3]
          exact .inr ⟨a, n, by rw [hl, ← hd]; rfl, rfl, ⟨c4, c3, c2, c1⟩, h φ1 μ1 H1 _ l1 rs1 (relI_range e2)⟩
  have lift : ∀ (σ : St) (H : Hp) (Q Q' : List V → Hp → Prop), rdA X.K xc o W es σ H Q → (∀ vs H', Q vs H' → Q' vs H') → rdA X.K xc o W es σ H Q' := by
    rintro σ H Q Q' ⟨φ, μ, env, s, rs, re, h⟩ i
    refine ⟨φ, μ, env, s, rs, re, ?_⟩
    revert h
    generalize evs o es env s = r
    intro h
    cases r with
    | no => exact h
    | ex c d s' => exact h
    | ok ds s' => exact fun φ' μ' H' b l rs' rl => i _ _ (h φ' μ' H' b l rs' rl)
  match ls, h01, hs, pa, fin with
  | [], h01, _, _, _ => simp at h01
  | [l], _, hs, pa, fin =>
    obtain ⟨hs1, _⟩ := and2 (show (notStar l && noStars []) = true from hs)
    refine PI.imp (pi_range1 g1 g2 pa (star_cons hs1)) fun σ H S q => lift σ H _ _ (fin σ H S q) ?_
    rintro vs H1 (⟨n, _, e, c1, c2, q⟩ | ⟨a, n, e, _⟩)
    · exact ⟨n, e, c1, c2, q⟩
    · cases e
  | [l, l2], _, hs, pa, fin =>
    obtain ⟨hs1, hs2⟩ := and2 (show (notStar l && noStars [l2]) = true from hs)
    obtain ⟨hs3, _⟩ := and2 (show (notStar l2 && noStars []) = true from hs2)
    refine PI.imp (pi_range2 g1 g2 pa (by rw [star_cons hs1, star_cons hs3]; rfl) (star_cons hs3)) fun σ H S q => lift σ H _ _ (fin σ H S q) ?_
    rintro vs H1 (⟨n, e, _⟩ | ⟨a, n, _, e, c, q⟩)
    · cases e
    · exact ⟨a, n, e, c, q⟩
  | _ :: _ :: _ :: _, h01, _, _, _ =>
    simp only [List.length_cons] at h01
    omega
/-! ### two lists side by side; a list with its numbers -/
theorem lsrc_rel {K : PySem.W.Frag} {φ : Fz} {μ : List Addr} {H : Hp} {s : Sto} {d : D} {v : V} {src : Src} (rs : RelS K φ μ H s) (rd : RelD K φ μ H d v) (h : lsrc d s = some src) : ∃ a vs, v = .ref a ∧ SqL K H a vs ∧ relA K φ μ H src a := by
  cases d <;> first | (simp [lsrc] at h; done) | skip
  · cases h
    obtain ⟨a, vs, e, h1, h2⟩ := relD_flst rd
    exact ⟨a, vs, e, h1.sq, vs, h1, h2⟩
  · rename_i n
    obtain ⟨a, e, h1⟩ := relD_loc rd
    simp only [lsrc] at h
    cases z : s[n]? with
    | none => rw [z] at h; cases h
    | some c =>
      rw [z] at h
      cases c with
      | lst xs =>
        cases h
        obtain ⟨vs, e1, e2⟩ := rs.cell n _ a z h1
        exact ⟨a, vs, e, SqL.of e1, h1⟩
      | dk _ => cases h
      | lk _ => cases h
      | ins _ _ => cases h
theorem esrc_rel {K : PySem.W.Frag} {φ : Fz} {μ : List Addr} {H : Hp} {s : Sto} {d : D} {v : V} {src : Src} (rs : RelS K φ μ H s) (rd : RelD K φ μ H d v) (h : esrc d s = some src) : ∃ a vs, v = .ref a ∧ ((SqL K H a vs ∧ relA K φ μ H src a) ∨ ∃ xs, src = .fix xs ∧ SqT K H a vs ∧ RelL K φ μ H xs vs) := by
  unfold esrc at h
  split at h
  · cases h
    obtain ⟨p, vs, rfl, k1, k2⟩ := relD_tup rd
    exact ⟨p, vs, rfl, .inr ⟨_, rfl, k1, k2⟩⟩
  · obtain ⟨a, vs, e, k1, k2⟩ := lsrc_rel rs rd h
    exact ⟨a, vs, e, .inl ⟨k1, k2⟩⟩
theorem pi_zips {m : Md} {a b : E} {e : Expr} {elts : List Expr} {kk : Nat} {tp : Pos} (G : Good T xc o W k C X) (ia : IhE T xc o W C X a) (ib : IhE T xc o W C X b) (h : mtE T m C (.zip a b) e = true) : PI X (.Tuple elts kk tp) e (rdI X.K xc o W (.zip a b)) := by
  simp only [mtE] at h
  split at h <;> first | cases h | skip
  rename_i x p l r pos
  simp only [Bool.and_eq_true] at h
  obtain ⟨⟨⟨⟨⟨_, h1⟩, h2⟩, h3⟩, h4⟩, h5⟩ := h
  obtain ⟨e1, g1, g2⟩ := blt_ok G h1
  subst e1
  refine PI.imp (RZ.pi_zipA g1 g2 (pa2 (to_E (ia l h2)) (to_E (ib r h3)) h4 h5) (star_cons h4) (stars1 h5)) fun σ H S => ?_
  rintro ⟨φ, μ, env, s, rs, re, h⟩
  have h' : Fin X.K W (relI X.K) φ μ H σ ((ev o a env s).bindv fun x s1 => (ev o b env s1).bindv fun y s2 => R.ofO (zipSrc x y s2) s2) S := by
    revert h
    unfold evi
    simp only [ev, R.bindv]
    generalize (ev o a env s).bind lay = r1
    cases r1 with
    | no => exact fun z => z
    | ex _ _ _ => exact fun z => z
    | ok x s1 =>
      simp only [R.bind_ok]
      generalize (ev o b env s1).bind lay = r2
      cases r2 with
      | no => exact fun z => z
      | ex _ _ _ => exact fun z => z
      | ok y s2 =>
        simp only [R.bind_ok]
        cases zipSrc x y s2 <;> exact fun z => z
  refine seqv rs re h' fun x s1 φ1 μ1 H1 v l1 rs1 re1 rd1 h1 => seqv rs1 re1 h1 fun y s2 φ2 μ2 H2 u l2 rs2 re2 rd2 h2 => ?_
  obtain ⟨src, e1, h3⟩ := h2.ofO
  have rx := rd1.up l2
  unfold zipSrc at e1
  split at e1
  · rename_i xs ys
    cases e1
    obtain ⟨p, vs, rfl, k1, k2⟩ := relD_tup rx
    obtain ⟨q, us, rfl, k3, k4⟩ := relD_tup rd2
    exact ⟨p, q, vs, us, rfl, .inr ⟨k1, k3, h3.here rs2 (.inr ⟨xs, ys, p, q, vs, us, rfl, rfl, k1, k2, k3, k4, rfl⟩)⟩⟩
  · split at e1 <;> first | (cases e1; done) | skip
    rename_i p q z1 z2
    cases e1
    obtain ⟨a1, vs, rfl, k1, k2⟩ := lsrc_rel rs2 rx z1
    obtain ⟨a2, us, rfl, k3, k4⟩ := lsrc_rel rs2 rd2 z2
    exact ⟨a1, a2, vs, us, rfl, .inl ⟨k1, k3, h3.here rs2 (.inl ⟨a1, a2, k2, k4, rfl⟩)⟩⟩
theorem pi_enus {m : Md} {a : E} {e : Expr} {elts : List Expr} {kk : Nat} {tp : Pos} (G : Good T xc o W k C X) (ia : IhE T xc o W C X a) (h : mtE T m C (.enu a) e = true) : PI X (.Tuple elts kk tp) e (rdI X.K xc o W (.enu a)) := by
  simp only [mtE] at h
  split at h <;> first | cases h | skip
  rename_i x p l pos
  obtain ⟨_, h1, h2, h3⟩ := and4 h
  obtain ⟨e1, g1, g2⟩ := blt_ok G h1
  subst e1
  refine PI.imp (ET.pi_enu g1 g2 (pa1 (to_E (ia l h2)) h3) (star_cons h3)) fun σ H S => ?_
  rintro ⟨φ, μ, env, s, rs, re, h⟩
  have h' : Fin X.K W (relI X.K) φ μ H σ ((ev o a env s).bindv fun x s1 => (R.ofO (esrc x s1) s1).bind fun p s2 => .ok (.enu p) s2) S := by
    revert h
    unfold evi
    simp only [ev, R.bindv]
    generalize (ev o a env s).bind lay = r1
    cases r1 with
    | no => exact fun z => z
    | ex _ _ _ => exact fun z => z
    | ok x s1 =>
      simp only [R.bind_ok]
      cases esrc x s1 <;> exact fun z => z
  refine seqv rs re h' fun x s1 φ1 μ1 H1 v l1 rs1 re1 rd1 h1 => ?_
  cases q : esrc x s1 with
  | none => rw [q] at h1; exact h1.elim
  | some p =>
    rw [q] at h1
    simp only [R.ofO_some, Mi.R.bind_ok] at h1
    obtain ⟨a1, vs, rfl, ⟨k1, k2⟩ | ⟨xs, rfl, k1, k2⟩⟩ := esrc_rel rs1 rd1 q
    · exact ⟨a1, vs, rfl, .inl ⟨k1, h1.here rs1 (.inl ⟨a1, k2, rfl⟩)⟩⟩
    · exact ⟨a1, vs, rfl, .inr ⟨k1, h1.here rs1 (.inr ⟨xs, a1, vs, rfl, k1, k2, rfl⟩)⟩⟩
theorem rd_imp {K : PySem.W.Frag} {e : E} {σ : St} {H : Hp} {Q Q' : V → Hp → Prop} (h : rdE K xc o W e σ H Q) (i : ∀ v H', Q v H' → Q' v H') : rdE K xc o W e σ H Q' := by
  obtain ⟨φ, μ, env, s, rs, re, h⟩ := h
  refine ⟨φ, μ, env, s, rs, re, ?_⟩
  revert h
  generalize evv o e env s = r
  intro h
  cases r with
  | no => exact h
  | ex c d s' => exact h
  | ok d s' => exact fun φ' μ' H' b l rs' rl => i _ _ (h φ' μ' H' b l rs' rl)
/-- behind a value things are locked -/
theorem pe_lk {e : Expr} {t : TE} (h : PE X e t) : PE X e (fun σ H Q => t σ H fun v H1 => Lk (Q v) H1) := ⟨fun pins s σ H Q I q => thn (h.run pins s σ H _ I q) fun u s1 ⟨v, H1, I1, rv, l⟩ => let ⟨H2, I2, q2⟩ := l.run I1; ⟨v, H2, I2, rv, q2⟩⟩
def walkW (kk : Ik) (ws : List (Key × V)) (kvs : List (Ky × D)) : List D := match kk with
  | .keys => (ws.map (·.1)).map keyD
  | .vals => kvs.map (·.2)
  | .items => kvs.map fun q => .tup [keyD q.1, q.2]
theorem walk_items {e : E} {σ : St} {H : Hp} {S : It → Hp → Prop} {kk : Ik} (h : rdI X.K xc o W (.itm kk e) σ H S) : rdE X.K xc o W e σ H fun v H1 => Lk (fun H2 => ∃ a ob ws φ μ s kvs, v = .ref a ∧ H2 a = some (.frz ob (.dK ws)) ∧ RelM X.K φ μ H2 kvs ws ∧ RelS X.K φ μ H2 s ∧
    ∀ J, relI X.K φ μ H2 (.fix (walkW kk ws kvs)) J → S J H2) H1 := by
  obtain ⟨φ, μ, env, s, rs, re, h⟩ := h
  have h' : Fin X.K W (relI X.K) φ μ H σ ((ev o e env s).bindv fun x s1 => (R.ofO (walkOf kk x s1) s1).bind fun q _ => .ok (.fix q.1) q.2) S := by
    revert h
    unfold evi
    simp only [ev, R.bindv]
    generalize (ev o e env s).bind lay = r1
    cases r1 with
    | no => exact fun z => z
    | ex _ _ _ => exact fun z => z
    | ok x s1 =>
      simp only [R.bind_ok]
      cases walkOf kk x s1 <;> exact fun z => z
  refine seqv rs re h' fun x s1 φ1 μ1 H1 v l1 rs1 re1 rd1 h1 => ?_
  cases e1 : walkOf kk x s1 with
  | none => rw [e1] at h1; exact h1.elim
  | some xs =>
  rw [e1] at h1
  simp only [Mi.R.ofO_some, Mi.R.bind_ok] at h1
  have walkE : ∀ {φ2 μ2 H2} {kvs : List (Ky × D)} {ws : List (Key × V)}, RelM X.K φ2 μ2 H2 kvs ws → walkL kk kvs = walkW kk ws kvs := by
    intro φ2 μ2 H2 kvs ws m
    cases kk with
    | keys => simp only [walkL, walkW]; rw [m.1, List.map_map]; rfl
    | vals => rfl
    | items => rfl
  cases x <;> first | (cases kk <;> cases e1; done) | (simp [walkOf] at e1; done) | skip
  · rename_i n
    obtain ⟨a, rfl, hm⟩ := relD_loc rd1
    simp only [walkOf] at e1
    cases z : s1[n]? with
    | none => rw [z] at e1; cases e1
    | some c =>
    rw [z] at e1
    cases c <;> first | (cases e1; done) | skip
    · rename_i kvs
      cases e1
      obtain ⟨ws, g1, g2⟩ := rs1.cell n _ a z hm
      refine .lock g1 True.intro fun od => .done ?_
      have lw : Le X.K φ1 μ1 H1 φ1 μ1 (upd H1 a (.frz od (.dK ws))) := Le.write rs1 hm g1 (fun _ z => nomatch z) (fun _ _ z => nomatch z)
      have rs2 : RelS X.K φ1 μ1 (upd H1 a (.frz od (.dK ws))) (s1.set n (.lk kvs)) := RelS.write rs1 hm g1 (fun _ z => nomatch z) (fun _ _ z => nomatch z) ⟨od, ws, upd_same, g2.up lw⟩
      refine ⟨a, od, ws, φ1, μ1, _, kvs, rfl, upd_same, g2.up lw, rs2, fun J hJ => h1 φ1 μ1 _ J lw rs2 ?_⟩
      rw [walkE (g2.up lw)]
      exact hJ
    · rename_i kvs
      cases e1
      obtain ⟨ob, ws, g1, g2⟩ := rs1.cell n _ a z hm
      refine .done ⟨a, ob, ws, φ1, μ1, s1, kvs, rfl, g1, g2, rs1, fun J hJ => h1.here rs1 ?_⟩
      rw [walkE g2]
      exact hJ
  rename_i ks ds
  obtain ⟨a, ob, ws, rfl, g1, g2, g3⟩ := relD_fdk rd1
  subst g2
  have m : RelM X.K φ1 μ1 H1 ((ws.map (·.1)).zip ds) ws := RelM.zip rfl g3
  have e2 : xs.2 = s1 := by cases kk <;> (cases e1; rfl)
  rw [e2] at h1
  refine .done ⟨a, ob, ws, φ1, μ1, s1, (ws.map (·.1)).zip ds, rfl, g1, m, rs1, fun J hJ => h1.here rs1 ?_⟩
  have hl : ((ws.map (·.1)).zip ds).map (·.2) = ds := by
    rw [List.map_snd_zip]
    have := g3.length
    simp only [List.length_map] at this ⊢
    omega
  cases kk with
  | keys => cases e1; exact hJ
  | vals => cases e1; simp only [walkW] at hJ; rw [hl] at hJ; exact hJ
  | items => cases e1; exact hJ
theorem Lk.mono {q q' : Hp → Prop} {H : Hp} (l : Lk q H) (i : ∀ H, q H → q' H) : Lk q' H := by
  induction l with
  | done h => exact .done (i _ h)
  | lock h mu r ih => exact .lock h mu ih
theorem pi_itms {m : Md} {kk : Ik} {a : E} {e tg : Expr} (G : Good T xc o W k C X) (ia : IhE T xc o W C X a) (htg : m = .it → ∃ elts j tp, tg = .Tuple elts j tp) (h : mtE T m C (.itm kk a) e = true) : PI X tg e (rdI X.K xc o W (.itm kk a)) := by
  simp only [mtE] at h
  split at h <;> first | cases h | skip
  rename_i ob name apos pos
  obtain ⟨h1, h2, h3, h4⟩ := and4 h
  have po := pe_lk (to_E (ia ob h4))
  have hb := base_plain (a := name) (env := X.env) (w := PySem.eval ob X.env) h1
  cases kk with
  | items =>
    obtain ⟨k1, k2⟩ := and2 h3
    have e1 := of_decide_eq_true k2
    subst e1
    obtain ⟨elts, j, tp, rfl⟩ := htg (of_decide_eq_true k1)
    refine PI.imp (pi_items po hb h2) fun σ H S q => rd_imp (walk_items q) fun v H1 l => l.mono ?_
    rintro H1 ⟨p, ob', ws, φ, μ, s, kvs, e, g1, g2, rs, g3⟩
    exact ⟨p, ob', ws, e, g1, g3 _ (relI_items g1 g2)⟩
  | keys =>
    obtain ⟨_, k2⟩ := and2 h3
    have e1 := of_decide_eq_true k2
    subst e1
    refine PI.imp (pi_keysM po hb h2) fun σ H S q => rd_imp (walk_items q) fun v H1 l => l.mono ?_
    rintro H1 ⟨p, ob', ws, φ, μ, s, kvs, e, g1, g2, rs, g3⟩
    exact ⟨p, ob', ws, e, g1, g3 _ (relI_keys g1)⟩
  | vals =>
    obtain ⟨_, k2⟩ := and2 h3
    have e1 := of_decide_eq_true k2
    subst e1
    refine PI.imp (pi_values po hb h2) fun σ H S q => rd_imp (walk_items q) fun v H1 l => l.mono ?_
    rintro H1 ⟨p, ob', ws, φ, μ, s, kvs, e, g1, g2, rs, g3⟩
    exact ⟨p, ob', ws, e, g1, g3 _ (relI_vals g1 g2.2)⟩
end
end Mi

/-! # Targets, comprehensions; all expressions -/
namespace Mi
open PySem L2
/-! ### a thing that is left alone -/
section
variable {K : PySem.W.Frag} {φ : Fz} {μ : List Addr} {H : Hp} {a : Addr} {u : HO} {o : HO}
/-- a thing that may change -/
structure Mov (u : HO) : Prop where
  t : ∀ xs, u ≠ .tup xs
  f : ∀ x y, u ≠ .frz x y
  b : ∀ ps, u ≠ .tbl ps
  e : ∀ q, u ≠ .ext q
theorem Mov.lst {vs : List V} : Mov (.lst vs) := ⟨(fun _ z => nomatch z), (fun _ _ z => nomatch z), (fun _ z => nomatch z), (fun _ z => nomatch z)⟩
theorem Mov.dK {vs : List (Key × V)} : Mov (.dK vs) := ⟨(fun _ z => nomatch z), (fun _ _ z => nomatch z), (fun _ z => nomatch z), (fun _ z => nomatch z)⟩
theorem alone_ne (h1 : (false, a) ∈ φ) (one : ∀ b, (false, b) ∈ φ → (true, b) ∉ φ) {b : Addr} (h : (true, b) ∈ φ) : b ≠ a := by
  rintro rfl
  exact one _ h1 h
mutual
/-- a tree does not lean on it -/
theorem RelD.alone (h1 : (false, a) ∈ φ) (one : ∀ b, (false, b) ∈ φ → (true, b) ∉ φ) (hl : H a = some u) (pu : Mov u) : ∀ {d : D} {v : V}, RelD K φ μ H d v → RelD K φ μ (upd H a o) d v
  | .non, _, h => by unfold RelD at h ⊢; exact h
  | .bl _, _, h => by unfold RelD at h ⊢; exact h
  | .int _, _, h => by unfold RelD at h ⊢; exact h
  | .str _, _, h => by unfold RelD at h ⊢; exact h
  | .tup ds, _, h => by
    unfold RelD at h ⊢
    obtain ⟨b, us, e, g1, g2⟩ := h
    exact ⟨b, us, e, sqt_upd (fun o' xs z => by rw [hl] at z; cases z; exact pu.t _) (fun o' x xs z => by rw [hl] at z; cases z; exact pu.f _ _) g1, RelL.alone h1 one hl pu g2⟩
  | .flst ds, _, h => by
    unfold RelD at h ⊢
    obtain ⟨b, us, e, g1, g2⟩ := h
    refine ⟨b, us, e, ?_, RelL.alone h1 one hl pu g2⟩
    rcases g1 with ⟨g, g'⟩ | ⟨x, g⟩ | g
    · exact .inl ⟨g, by rw [upd_ne (alone_ne h1 one g)]; exact g'⟩
    · have : b ≠ a := by rintro rfl; rw [hl] at g; cases g; exact pu.f _ _ rfl
      exact .inr (.inl ⟨x, by rw [upd_ne this]; exact g⟩)
    · exact .inr (.inr g)
  | .loc n, _, h => by unfold RelD at h ⊢; exact h
  | .fdk ks ds, _, h => by
    unfold RelD at h ⊢
    obtain ⟨b, x, ws, e, g1, g2, g3⟩ := h
    have : b ≠ a := by rintro rfl; rw [hl] at g1; cases g1; exact pu.f _ _ rfl
    exact ⟨b, x, ws, e, by rw [upd_ne this]; exact g1, g2, RelL.alone h1 one hl pu g3⟩
  | .fins c fs ds, _, h => by
    unfold RelD at h ⊢
    obtain ⟨b, C, dx, ws, e, g0, g1, g2, g3, g4⟩ := h
    exact ⟨b, C, dx, ws, e, g0, by rw [upd_ne (alone_ne h1 one g0)]; exact g1, g2, g3, RelL.alone h1 one hl pu g4⟩
  | .exc c d, _, h => by
    unfold RelD at h ⊢
    obtain ⟨b, C, fI, Dq, dd, w, e, g1, g2, g3, g4, g5, g6⟩ := h
    exact ⟨b, C, fI, Dq, dd, w, e, g1, g2, by rw [upd_ne (alone_ne h1 one g1)]; exact g3, by rw [upd_ne (alone_ne h1 one g2)]; exact g4, g5, RelD.alone h1 one hl pu g6⟩
  | .clo _ _, _, h => by unfold RelD at h; exact h.elim
theorem RelL.alone (h1 : (false, a) ∈ φ) (one : ∀ b, (false, b) ∈ φ → (true, b) ∉ φ) (hl : H a = some u) (pu : Mov u) : ∀ {ds : List D} {us : List V}, RelL K φ μ H ds us → RelL K φ μ (upd H a o) ds us
  | [], _, h => by unfold RelL at h ⊢; exact h
  | d :: ds, _, h => by
    unfold RelL at h ⊢
    obtain ⟨v, r, e, g1, g2⟩ := h
    exact ⟨v, r, e, RelD.alone h1 one hl pu g1, RelL.alone h1 one hl pu g2⟩
end
theorem RelS.alone {s : Sto} (rs : RelS K φ μ H s) (h1 : (false, a) ∈ φ) (hl : H a = some u) (pu : Mov u) (po : ∀ ps, o ≠ .tbl ps := by intro _ z; cases z) : RelS K φ μ (upd H a o) s := by
  refine ⟨rs.nd, rs.len, fun n c b e1 e2 => ?_, rs.apart, fun p hp => ?_, rs.one, rs.tabs.put hl pu.b pu.e, fun p hp ps => ?_⟩
  · have ne : b ≠ a := by rintro rfl; exact rs.apart _ h1 (List.mem_of_getElem? e2)
    have hc := rs.cell n c b e1 e2
    cases c with
    | lst ds =>
      obtain ⟨us, g1, g2⟩ := hc
      exact ⟨us, by rw [upd_ne ne]; exact g1, RelL.alone h1 rs.one hl pu g2⟩
    | dk kvs =>
      obtain ⟨us, g1, g2, g3⟩ := hc
      exact ⟨us, by rw [upd_ne ne]; exact g1, g2, RelL.alone h1 rs.one hl pu g3⟩
    | ins c fs =>
      obtain ⟨C, dx, us, g1, g0, g2, g3⟩ := hc
      exact ⟨C, dx, us, by rw [upd_ne ne]; exact g1, g0, g2, RelL.alone h1 rs.one hl pu g3⟩
    | lk kvs =>
      obtain ⟨ob, us, g1, g2, g3⟩ := hc
      exact ⟨ob, us, by rw [upd_ne ne]; exact g1, g2, RelL.alone h1 rs.one hl pu g3⟩
  · by_cases e : p.2 = a
    · rw [e, upd_same]; intro z; cases z
    · rw [upd_ne e]; exact rs.here p hp
  · by_cases e : p.2 = a
    · rw [e, upd_same]; intro z; cases z; exact po _ rfl
    · rw [upd_ne e]; exact rs.nt p hp ps
theorem RelE.alone {xc : XcT} {env : Env} {σ : St} (re : RelE xc K φ μ H env σ) (h1 : (false, a) ∈ φ) (one : ∀ b, (false, b) ∈ φ → (true, b) ∉ φ) (hl : H a = some u) (pu : Mov u) : RelE xc K φ μ (upd H a o) env σ :=
  ⟨re.len, fun i d e n => let ⟨v, e1, e2⟩ := re.at_ i d e n; ⟨v, e1, RelD.alone h1 one hl pu e2⟩, fun t e => let ⟨g1, ⟨ds, g2, g3⟩, g5⟩ := re.cl t e; ⟨g1, ⟨ds, g2, RelL.alone h1 one hl pu g3⟩, by rw [upd_ne (by rintro rfl; rw [hl] at g5; cases g5; exact pu.e _ rfl)]; exact g5⟩⟩
/-- from where it was not yet left alone -/
theorem Le.alone {φ0 : Fz} {μ0 : List Addr} {H0 : Hp} (l : Le K φ0 μ0 H0 φ μ H) (n : ∀ b, (b, a) ∉ φ0) (hl : H a = some u) (pu : Mov u) : Le K φ0 μ0 H0 φ μ (upd H a o) := by
  refine ⟨l.fz, l.pl, fun b us g => sqt_upd (fun o' xs z => by rw [hl] at z; cases z; exact pu.t _) (fun o' x xs z => by rw [hl] at z; cases z; exact pu.f _ _) (l.tup b us g), fun b x u g => ?_, fun p hp => ?_, fun b q g => ?_⟩
  · have g' := l.frz b x u g
    have : b ≠ a := by rintro rfl; rw [hl] at g'; cases g'; exact pu.f _ _ rfl
    rw [upd_ne this]; exact g'
  · have : p.2 ≠ a := by rintro rfl; exact n p.1 hp
    rw [upd_ne this]; exact l.set p hp
  · have g' := l.ext b q g
    have : b ≠ a := by rintro rfl; rw [hl] at g'; cases g'; exact pu.e _ rfl
    rw [upd_ne this]; exact g'
/-- no longer left alone -/
def drp (φ : Fz) (a : Addr) : Fz := φ.filter fun p => decide (p ≠ (false, a))
theorem mem_drp {p : Bool × Addr} (h : p ∈ φ) (n : p ≠ (false, a)) : p ∈ drp φ a := List.mem_filter.mpr ⟨h, by simpa using n⟩
theorem of_drp {p : Bool × Addr} (h : p ∈ drp φ a) : p ∈ φ ∧ p ≠ (false, a) := by
  obtain ⟨h1, h2⟩ := List.mem_filter.mp h
  exact ⟨h1, by simpa using h2⟩
mutual
theorem RelD.drp : ∀ {d : D} {v : V}, RelD K φ μ H d v → RelD K (drp φ a) μ H d v
  | .non, _, h => by unfold RelD at h ⊢; exact h
  | .bl _, _, h => by unfold RelD at h ⊢; exact h
  | .int _, _, h => by unfold RelD at h ⊢; exact h
  | .str _, _, h => by unfold RelD at h ⊢; exact h
  | .tup ds, _, h => by
    unfold RelD at h ⊢
    obtain ⟨b, us, e, g1, g2⟩ := h
    exact ⟨b, us, e, g1, RelL.drp g2⟩
  | .flst ds, _, h => by
    unfold RelD at h ⊢
    obtain ⟨b, us, e, g1, g2⟩ := h
    refine ⟨b, us, e, ?_, RelL.drp g2⟩
    rcases g1 with ⟨g, g'⟩ | g | g
    · exact .inl ⟨mem_drp g (fun z => nomatch z), g'⟩
    · exact .inr (.inl g)
    · exact .inr (.inr g)
  | .loc n, _, h => by unfold RelD at h ⊢; exact h
  | .fdk ks ds, _, h => by
    unfold RelD at h ⊢
    obtain ⟨b, x, ws, e, g1, g2, g3⟩ := h
    exact ⟨b, x, ws, e, g1, g2, RelL.drp g3⟩
  | .fins c fs ds, _, h => by
    unfold RelD at h ⊢
    obtain ⟨b, C, dx, ws, e, g0, g1, g2, g3, g4⟩ := h
    exact ⟨b, C, dx, ws, e, mem_drp g0 (fun z => nomatch z), g1, g2, g3, RelL.drp g4⟩
  | .exc c d, _, h => by
    unfold RelD at h ⊢
    obtain ⟨b, C, fI, Dq, dd, w, e, g1, g2, g3, g4, g5, g6⟩ := h
    exact ⟨b, C, fI, Dq, dd, w, e, mem_drp g1 (fun z => nomatch z), mem_drp g2 (fun z => nomatch z), g3, g4, g5, RelD.drp g6⟩
  | .clo _ _, _, h => by unfold RelD at h; exact h.elim
theorem RelL.drp : ∀ {ds : List D} {us : List V}, RelL K φ μ H ds us → RelL K (drp φ a) μ H ds us
  | [], _, h => by unfold RelL at h ⊢; exact h
  | d :: ds, _, h => by
    unfold RelL at h ⊢
    obtain ⟨v, r, e, g1, g2⟩ := h
    exact ⟨v, r, e, RelD.drp g1, RelL.drp g2⟩
end
theorem RelS.drp {s : Sto} (rs : RelS K φ μ H s) : RelS K (drp φ a) μ H s := by
  refine ⟨rs.nd, rs.len, fun n c b e1 e2 => ?_, fun p hp => rs.apart p (of_drp hp).1, fun p hp => rs.here p (of_drp hp).1, fun b h1 h2 => rs.one b (of_drp h1).1 (of_drp h2).1, rs.tabs, fun p hp => rs.nt p (of_drp hp).1⟩
  have hc := rs.cell n c b e1 e2
  cases c with
  | lst ds =>
    obtain ⟨us, g1, g2⟩ := hc
    exact ⟨us, g1, RelL.drp g2⟩
  | dk kvs =>
    obtain ⟨us, g1, g2, g3⟩ := hc
    exact ⟨us, g1, g2, RelL.drp g3⟩
  | ins c fs =>
    obtain ⟨C, dx, us, g1, g0, g2, g3⟩ := hc
    exact ⟨C, dx, us, g1, g0, g2, RelL.drp g3⟩
  | lk kvs =>
    obtain ⟨ob, us, g1, g2, g3⟩ := hc
    exact ⟨ob, us, g1, g2, RelL.drp g3⟩
theorem Le.drp {φ0 : Fz} {μ0 : List Addr} {H0 : Hp} (l : Le K φ0 μ0 H0 φ μ H) (n : ∀ b, (b, a) ∉ φ0) : Le K φ0 μ0 H0 (drp φ a) μ H :=
  ⟨fun p hp => mem_drp (l.fz p hp) (by rintro rfl; exact n _ hp), l.pl, l.tup, l.frz, l.set, l.ext⟩
end
/-! ### targets -/
def t1Slots : List T1 → List Nat
  | [] => []
  | .a i :: r => i :: t1Slots r
  | .b is :: r => is ++ t1Slots r
def tgSlots : Tg → List Nat
  | .tn ts => t1Slots ts
  | .nm i => [i]
  | .tp is => is
def gNms : List Nat → TGs
  | [] => gNil
  | i :: is => gCons (gName i) (gNms is)
/-- a value is bound -/
def gB (xc : XcT) (K : PySem.W.Frag) (tg : Tg) : TG := fun v σ H Q => ∃ φ μ env d env', RelE xc K φ μ H env σ ∧ RelD K φ μ H d v ∧ bindTg tg d env = some env' ∧ ∀ σ', RelE xc K φ μ H env' σ' → (∀ i, i ∉ tgSlots tg → σ'[i]? = σ[i]?) → Q σ' H
section
variable {T : Tab} {xc : XcT} {o : Orc} {W : WX} {k : Nat} {C : SC} {X : Cx}
theorem PG.imp {e : Expr} {t t' : TG} (h : PG X e t) (i : ∀ v σ H Q, t' v σ H Q → t v σ H Q) : PG X e t' := ⟨fun pins s σ H v u Q I r q => h.run pins s σ H v u Q I r (i v σ H Q q)⟩
/-- what a place asks of its names -/
structure GoodN (xc : XcT) (C : SC) (X : Cx) : Prop where
  calm : X.calm = true
  nd : C.N.Nodup
  N : X.N = C.N
  sc : X.env.scope = C.sc
  fn : X.fn = C.fn
  th : xc.th ≠ none → C.th = true
theorem Good.n (G : Good T xc o W k C X) : GoodN xc C X := ⟨G.calm, G.nd, G.N, G.sc, G.fn, G.th⟩
theorem pg_nm {i : Nat} {x : Str} {pos : Pos} (G : GoodN xc C X) (h : nmIs C i x = true) : PG X (.Name x pos) (gName i) := by
  unfold nmIs isKind at h
  simp only [Bool.and_eq_true, Bool.or_eq_true, decide_eq_true_eq] at h
  obtain ⟨h1, h2⟩ := h
  have hN : X.N.Nodup := by rw [G.N]; exact G.nd
  have hi : X.N[i]? = some x := by rw [G.N]; exact h1.1
  rcases h2 with h2 | ⟨h2, h3⟩
  · have e : X.env.scope.names.lookup x = some .local := by rw [G.sc]; exact h2
    exact pg_name hN hi (.inl e) (.inr e)
  · have e : X.env.scope.names.lookup x = some .cell := by rw [G.sc]; exact h2
    exact pg_name hN hi (.inr e) (.inl (by rw [G.fn]; exact h3))
theorem pgs_nms (G : GoodN xc C X) : ∀ {is : List Nat} {es : List Expr}, mtNms C is es = true → PGs X es (gNms is) ∧ (assignEach es X.env).length = is.length ∧ (assignEach es X.env).findIdx? (·.1) = none ∧ (∀ p ∈ assignEach es X.env, p.1 = false)
  | [], [], _ => ⟨pgs_nil, rfl, rfl, fun p hp => by cases hp⟩
  | [], _ :: _, h => by unfold mtNms at h; cases h
  | i :: is, [], h => by unfold mtNms at h; cases h
  | i :: is, e :: es, h => by
    cases e <;> first | (unfold mtNms at h; cases h; done) | skip
    rename_i x pos
    unfold mtNms at h
    obtain ⟨h1, h2⟩ := and2 h
    obtain ⟨g1, g2, g3, g4⟩ := pgs_nms G h2
    refine ⟨pgs_cons (pg_nm G h1) g1 rfl, ?_, ?_, fun p hp => ?_⟩
    · show (assignEach es X.env).length + 1 = is.length + 1
      rw [g2]
    · rw [List.findIdx?_eq_none_iff]
      intro p hp
      rcases List.mem_cons.mp (show p ∈ (false, PySem.assign (.Name x pos) X.env) :: assignEach es X.env from hp) with rfl | hp
      · rfl
      · exact g4 p hp
    · rcases List.mem_cons.mp (show p ∈ (false, PySem.assign (.Name x pos) X.env) :: assignEach es X.env from hp) with rfl | hp
      · rfl
      · exact g4 p hp
theorem setAll_rel {K : PySem.W.Frag} {φ : Fz} {μ : List Addr} {H : Hp} : ∀ {is : List Nat} {ds : List D} {vs : List V} {env env' : Env} {σ : St} {Q : St → Hp → Prop}, (xc.th ≠ none → ∀ i ∈ is, i ≠ 0) → RelE xc K φ μ H env σ → RelL K φ μ H ds vs → setAll env is ds = some env' →
    (∀ σ', RelE xc K φ μ H env' σ' → (∀ i, i ∉ is → σ'[i]? = σ[i]?) → Q σ' H) → gNms is vs σ H Q
  | [], [], vs, env, env', σ, Q, _, re, rl, h, q => by
    cases h
    have e := rl.of_nil
    subst e
    exact ⟨rfl, q σ re fun _ _ => rfl⟩
  | [], _ :: _, _, _, _, _, _, _, _, _, h, _ => by cases h
  | _ :: _, [], _, _, _, _, _, _, _, _, h, _ => by cases h
  | i :: is, d :: ds, vs, env, env', σ, Q, h0, re, rl, h, q => by
    obtain ⟨v, r, rfl, r1, r2⟩ := rl.of_cons
    refine ⟨v, r, rfl, setAll_rel (fun z j hj => h0 z j (List.mem_cons_of_mem _ hj)) (re.set (fun z => h0 z i List.mem_cons_self) r1) r2 h fun σ' re' hσ => q σ' re' fun j hj => ?_⟩
    rw [hσ j fun z => hj (List.mem_cons_of_mem _ z)]
    exact List.getElem?_set_ne fun (z : i = j) => hj (by subst z; exact List.mem_cons_self)
theorem setAll_len : ∀ {is : List Nat} {ds : List D} {env env' : Env}, setAll env is ds = some env' → ds.length = is.length
  | [], [], _, _, _ => rfl
  | [], _ :: _, _, _, h => by cases h
  | _ :: _, [], _, _, h => by cases h
  | i :: is, d :: ds, env, env', h => by rw [List.length_cons, List.length_cons, setAll_len (env := env.set i (some d)) h]
def gT1s (K : PySem.W.Frag) : List T1 → TGs
  | [] => gNil
  | .a i :: ts => gCons (gName i) (gT1s K ts)
  | .b is :: ts => gCons (gTup K is.length (gNms is)) (gT1s K ts)
theorem set1_rel {K : PySem.W.Frag} {φ : Fz} {μ : List Addr} {H : Hp} : ∀ {ts : List T1} {ds : List D} {vs : List V} {env env' : Env} {σ : St} {Q : St → Hp → Prop}, (xc.th ≠ none → ∀ i ∈ t1Slots ts, i ≠ 0) → RelE xc K φ μ H env σ → RelL K φ μ H ds vs → set1 env ts ds = some env' →
    (∀ σ', RelE xc K φ μ H env' σ' → (∀ i, i ∉ t1Slots ts → σ'[i]? = σ[i]?) → Q σ' H) → gT1s K ts vs σ H Q
  | [], [], vs, env, env', σ, Q, _, re, rl, h, q => by
    cases h
    have e := rl.of_nil
    subst e
    exact ⟨rfl, q σ re fun _ _ => rfl⟩
  | [], _ :: _, _, _, _, _, _, _, _, _, h, _ => by cases h
  | _ :: _, [], _, _, _, _, _, _, _, _, h, _ => by cases h
  | .a i :: ts, d :: ds, vs, env, env', σ, Q, h0, re, rl, h, q => by
    obtain ⟨v, r, rfl, r1, r2⟩ := rl.of_cons
    refine ⟨v, r, rfl, set1_rel (fun z j hj => h0 z j (List.mem_cons_of_mem _ hj)) (re.set (fun z => h0 z i List.mem_cons_self) r1) r2 h fun σ' re' hσ => q σ' re' fun j hj => ?_⟩
    rw [hσ j fun z => hj (List.mem_cons_of_mem _ z)]
    exact List.getElem?_set_ne fun (z : i = j) => hj (by subst z; exact List.mem_cons_self)
  | .b is :: ts, d :: ds, vs, env, env', σ, Q, h0, re, rl, h, q => by
    obtain ⟨v, r, rfl, r1, r2⟩ := rl.of_cons
    simp only [set1] at h
    split at h <;> first | (cases h; done) | skip
    rename_i es
    cases z : setAll env is es with
    | none => rw [z] at h; cases h
    | some env1 =>
      rw [z] at h
      obtain ⟨a, us, rfl, h1, h2⟩ := relD_tup r1
      refine ⟨_, r, rfl, a, us, rfl, h1, by rw [← h2.length]; exact setAll_len z, setAll_rel (fun z j hj => h0 z j (List.mem_append_left _ hj)) re h2 z fun σ1 re1 h3 => set1_rel (fun z j hj => h0 z j (List.mem_append_right _ hj)) re1 r2 h fun σ' re' hσ => q σ' re' fun j hj => ?_⟩
      rw [hσ j fun w => hj (List.mem_append_right _ w), h3 j fun w => hj (List.mem_append_left _ w)]
theorem set1_len : ∀ {ts : List T1} {ds : List D} {env env' : Env}, set1 env ts ds = some env' → ds.length = ts.length
  | [], [], _, _, _ => rfl
  | [], _ :: _, _, _, h => by cases h
  | _ :: _, [], _, _, h => by cases h
  | .a i :: ts, d :: ds, env, env', h => by rw [List.length_cons, List.length_cons, set1_len (env := env.set i (some d)) h]
  | .b is :: ts, d :: ds, env, env', h => by
    simp only [set1] at h
    split at h <;> first | (cases h; done) | skip
    split at h <;> first | (cases h; done) | skip
    rw [List.length_cons, List.length_cons, set1_len h]
theorem pgs_t1s (G : GoodN xc C X) : ∀ {ts : List T1} {es : List Expr}, mtT1s C ts es = true → PGs X es (gT1s X.K ts) ∧ (assignEach es X.env).length = ts.length ∧ (∀ p ∈ assignEach es X.env, p.1 = false)
  | [], [], _ => ⟨pgs_nil, rfl, fun p hp => by cases hp⟩
  | [], _ :: _, h => by unfold mtT1s at h; cases h
  | t :: ts, [], h => by unfold mtT1s at h; cases t <;> cases h
  | .a i :: ts, e :: es, h => by
    cases e <;> first | (unfold mtT1s at h; cases h; done) | skip
    rename_i x pos
    unfold mtT1s at h
    obtain ⟨h1, h2⟩ := and2 h
    obtain ⟨g1, g2, g4⟩ := pgs_t1s G h2
    refine ⟨pgs_cons (pg_nm G h1) g1 rfl, ?_, fun p hp => ?_⟩
    · show (assignEach es X.env).length + 1 = ts.length + 1
      rw [g2]
    · rcases List.mem_cons.mp (show p ∈ (false, PySem.assign (.Name x pos) X.env) :: assignEach es X.env from hp) with rfl | hp
      · rfl
      · exact g4 p hp
  | .b is :: ts, e :: es, h => by
    cases e <;> first | (unfold mtT1s at h; cases h; done) | skip
    rename_i ns kk pos
    unfold mtT1s at h
    obtain ⟨h1, h2⟩ := and2 h
    obtain ⟨k1, k2, k3, _⟩ := pgs_nms G h1
    obtain ⟨g1, g2, g4⟩ := pgs_t1s G h2
    refine ⟨pgs_cons (pg_tup G.calm k1 k2 k3) g1 rfl, ?_, fun p hp => ?_⟩
    · show (assignEach es X.env).length + 1 = ts.length + 1
      rw [g2]
    · rcases List.mem_cons.mp (show p ∈ (false, PySem.assign (.Tuple ns kk pos) X.env) :: assignEach es X.env from hp) with rfl | hp
      · rfl
      · exact g4 p hp
theorem mtT1s_0 {C : SC} : ∀ {ts : List T1} {es : List Expr}, mtT1s C ts es = true → C.th = true → ∀ i ∈ t1Slots ts, i ≠ 0
  | [], _, _, _, i, hi => by cases hi
  | t :: _, [], h, _, _, _ => by unfold mtT1s at h; cases t <;> cases h
  | .a j :: ts, e :: es, h, t, i, hi => by
    cases e <;> first | (unfold mtT1s at h; cases h; done) | skip
    unfold mtT1s at h
    obtain ⟨h1, h2⟩ := and2 h
    rcases List.mem_cons.mp (show i ∈ j :: t1Slots ts from hi) with rfl | hi
    · exact nmIs_0 h1 t
    · exact mtT1s_0 h2 t i hi
  | .b js :: ts, e :: es, h, t, i, hi => by
    cases e <;> first | (unfold mtT1s at h; cases h; done) | skip
    unfold mtT1s at h
    obtain ⟨h1, h2⟩ := and2 h
    rcases List.mem_append.mp (show i ∈ js ++ t1Slots ts from hi) with hi | hi
    · exact mtNms_0 h1 t i hi
    · exact mtT1s_0 h2 t i hi
theorem pg_tg {tg : Tg} {e : Expr} (G : GoodN xc C X) (h : mtTg C tg e = true) : PG X e (gB xc X.K tg) := by
  cases tg with
  | nm i =>
    cases e <;> first | (unfold mtTg at h; cases h; done) | skip
    refine PG.imp (pg_nm G h) fun v σ H Q => ?_
    rintro ⟨φ, μ, env, d, env', re, rd, e, q⟩
    cases e
    exact q _ (re.set (fun z => nmIs_0 h (G.th z)) rd) fun j hj => List.getElem?_set_ne fun (z : i = j) => hj (by subst z; exact List.mem_cons_self)
  | tp is =>
    cases e <;> first | (unfold mtTg at h; cases h; done) | skip
    obtain ⟨g1, g2, g3, _⟩ := pgs_nms G h
    refine PG.imp (pg_tup G.calm g1 g2 g3) fun v σ H Q => ?_
    rintro ⟨φ, μ, env, d, env', re, rd, e, q⟩
    cases d <;> first | cases e | skip
    rename_i ds
    obtain ⟨a, vs, rfl, h1, h2⟩ := relD_tup rd
    exact ⟨a, vs, rfl, h1, by rw [← h2.length]; exact setAll_len (show setAll env is ds = some env' from e), setAll_rel (fun z => mtNms_0 h (G.th z)) re h2 e q⟩
  | tn ts =>
    cases e <;> first | (unfold mtTg at h; cases h; done) | skip
    obtain ⟨g1, g2, g3⟩ := pgs_t1s G h
    refine PG.imp (pg_tup G.calm g1 g2 (List.findIdx?_eq_none_iff.mpr g3)) fun v σ H Q => ?_
    rintro ⟨φ, μ, env, d, env', re, rd, e, q⟩
    cases d <;> first | cases e | skip
    rename_i ds
    obtain ⟨a, vs, rfl, h1, h2⟩ := relD_tup rd
    exact ⟨a, vs, rfl, h1, by rw [← h2.length]; exact set1_len (show set1 env ts ds = some env' from e), set1_rel (fun z => mtT1s_0 h (G.th z)) re h2 e q⟩
theorem wipe_rel {K : PySem.W.Frag} {φ : Fz} {μ : List Addr} {H : Hp} : ∀ {own : List Nat} {env : Env} {σ : St}, (xc.th ≠ none → ∀ i ∈ own, i ≠ 0) → RelE xc K φ μ H env σ → RelE xc K φ μ H (wipe env own) (L2.wipe σ own)
  | [], _, _, _, h => h
  | i :: r, env, σ, h0, h => by
    unfold wipe L2.wipe
    exact (wipe_rel (fun z j hj => h0 z j (List.mem_cons_of_mem _ hj)) h).unset (fun z => h0 z i List.mem_cons_self)
theorem tgIn_slots {own : List Nat} {tg : Tg} (h : tgIn0 own tg = true) : ∀ i ∈ tgSlots tg, i ∈ own := by
  cases tg with
  | nm i =>
    intro j hj
    have : j = i := by simpa [tgSlots] using hj
    subst this
    simpa [tgIn0] using h
  | tp is =>
    intro j hj
    have := List.all_eq_true.mp (show is.all (fun i => own.contains i) = true from h) j hj
    simpa using this
  | tn ts =>
    have h' : (ts.all fun t => match t with | .a i => own.contains i | .b is => is.all fun i => own.contains i) = true := h
    show ∀ i ∈ t1Slots ts, i ∈ own
    clear h
    induction ts with
    | nil => intro i hi; cases hi
    | cons t ts ih =>
      rw [List.all_cons, Bool.and_eq_true] at h'
      intro i hi
      cases t with
      | a j =>
        rcases List.mem_cons.mp hi with rfl | hi
        · simpa using h'.1
        · exact ih h'.2 i hi
      | b is =>
        rcases List.mem_append.mp hi with hi | hi
        · have := List.all_eq_true.mp h'.1 i hi
          simpa using this
        · exact ih h'.2 i hi
theorem wipe_same {own : List Nat} {σ τ : St} (hl : σ.length = τ.length) (h : ∀ i, i ∉ own → σ[i]? = τ[i]?) : L2.wipe σ own = L2.wipe τ own := by
  apply List.ext_getElem?
  intro i
  have inn : ∀ (l : List Nat) (σ : St), i ∈ l → (L2.wipe σ l)[i]? = if i < σ.length then some none else none := by
    intro l
    induction l with
    | nil => intro σ h; cases h
    | cons a l ih =>
      intro σ h
      unfold L2.wipe
      by_cases ha : a = i
      · subst ha
        by_cases hlt : a < σ.length
        · rw [if_pos hlt, List.getElem?_set_self (by rw [L2.wipe_length]; exact hlt)]
        · rw [if_neg hlt, List.getElem?_eq_none]
          rw [List.length_set, L2.wipe_length]
          omega
      · rw [List.getElem?_set_ne ha]
        rcases List.mem_cons.mp h with e | h
        · exact absurd e.symm ha
        · exact ih σ h
  by_cases hi : i ∈ own
  · rw [inn own σ hi, inn own τ hi, hl]
  · rw [wipe_out hi, wipe_out hi, h i hi]
theorem lt_line {n : Nat} (h : n < sizeMax) : n < sizeLine := by rw [sizeLine_eq]; exact h
/-- outside a def's own errors -/
abbrev WF : WX := fun _ _ _ _ => False
/-- a turn of what is gone along -/
theorem relI_step {K : PySem.W.Frag} {φ φ' : Fz} {μ μ' : List Addr} {H H' : Hp} {src : Src} {J : It} {i : Nat} {s : Sto} (h : relI K φ μ H src J) (l : Le K φ μ H φ' μ' H') (rs : RelS K φ' μ' H' s) :
    (∀ d, srcGet src i s = some d → J.go i H' ∧ ∀ x H'', J.yld i H' x H'' → Le K φ' μ' H' φ' μ' H'' ∧ RelS K φ' μ' H'' s ∧ RelD K φ' μ' H'' d x) ∧ (srcEnd src i s = true → J.stop i H') := by
  cases src with
  | fix xs =>
    obtain ⟨h1, h2, h3⟩ := h i φ' μ' H' l
    exact ⟨fun d e => ⟨h1 d e, fun x H'' y => h2 d x H'' s e rs y⟩, fun e => h3 (of_decide_eq_true e)⟩
  | at_ n len =>
    obtain ⟨a, e1, rfl⟩ := h
    have e2 := get_pre l.pl e1
    refine ⟨fun d e => ?_, fun e => ?_⟩
    · simp only [srcGet] at e
      cases q : s[n]? with
      | none => rw [q] at e; cases e
      | some c =>
        rw [q] at e
        cases c with
        | dk _ => cases e
        | lk _ => cases e
        | ins _ _ => cases e
        | lst xs =>
          obtain ⟨vs, g1, g2⟩ := rs.cell n _ a q e2
          obtain ⟨v, g3, g4⟩ := g2.get e
          refine ⟨⟨vs, v, SqL.of g1, g3⟩, fun x H'' y => ?_⟩
          obtain ⟨y1, y2⟩ := y
          subst y1
          have := y2 vs (SqL.of g1)
          rw [g3] at this
          cases this
          exact ⟨Le.refl, rs, g4⟩
    · simp only [srcEnd] at e
      cases q : s[n]? with
      | none => rw [q] at e; cases e
      | some c =>
        rw [q] at e
        cases c with
        | dk _ => cases e
        | lk _ => cases e
        | ins _ _ => cases e
        | lst xs =>
          obtain ⟨vs, g1, g2⟩ := rs.cell n _ a q e2
          exact ⟨vs, SqL.of g1, by rw [← g2.length]; exact of_decide_eq_true e⟩
  | zip p q =>
    rcases h with ⟨a, b, h1, h2, rfl⟩ | ⟨xs, ys, a, b, vs, us, rfl, rfl, k1, k2, k3, k4, rfl⟩
    · refine ⟨fun d e => ?_, fun e => ?_⟩
      · have z0 : ∃ x y, srcGet p i s = some x ∧ srcGet q i s = some y := by
          simp only [srcGet] at e
          split at e
          · rename_i z1 z2; exact ⟨_, _, z1, z2⟩
          · cases e
        obtain ⟨_, _, z1, z2⟩ := z0
        obtain ⟨vs, ds, q1, q2, q3, q4⟩ := relA_now h1 l rs (ok_get h1 z1)
        obtain ⟨us, es, p1, p2, p3, p4⟩ := relA_now h2 l rs (ok_get h2 z2)
        clear z1 z2
        simp only [srcGet, q3, p3] at e
        cases z1 : ds[i]? with
        | none => rw [z1] at e; cases e
        | some d1 =>
          cases z2 : es[i]? with
          | none => rw [z1, z2] at e; cases e
          | some d2 =>
            rw [z1, z2] at e
            cases e
            obtain ⟨x, x1, x2⟩ := q2.get z1
            obtain ⟨y, y1, y2⟩ := p2.get z2
            refine ⟨⟨vs, us, x, y, q1, p1, x1, y1⟩, fun v H'' yl => ?_⟩
            obtain ⟨t, x', y', rfl, ht, rfl, w1, w2⟩ := yl
            have e1 := w1 vs q1
            have e2 := w2 us p1
            rw [x1] at e1
            rw [y1] at e2
            cases e1
            cases e2
            exact pair_new rs ht x2 y2
      · simp only [srcEnd, Bool.or_eq_true, Bool.and_eq_true] at e
        obtain ⟨e, z1, z2⟩ := e
        obtain ⟨vs, ds, q1, q2, q3, q4⟩ := relA_now h1 l rs z1
        obtain ⟨us, es, p1, p2, p3, p4⟩ := relA_now h2 l rs z2
        refine ⟨vs, us, q1, p1, ?_⟩
        rcases e with e | e
        · exact .inl (by rw [← q2.length]; exact q4 i e)
        · exact .inr (by rw [← p2.length]; exact p4 i e)
    · have g1 := l.tup a vs k1
      have g2 := k2.up l
      have g3 := l.tup b us k3
      have g4 := k4.up l
      refine ⟨fun d e => ?_, fun e => ?_⟩
      · simp only [srcGet] at e
        cases z1 : xs[i]? with
        | none => rw [z1] at e; cases e
        | some d1 =>
          cases z2 : ys[i]? with
          | none => rw [z1, z2] at e; cases e
          | some d2 =>
            rw [z1, z2] at e
            cases e
            obtain ⟨x, x1, x2⟩ := g2.get z1
            obtain ⟨y, y1, y2⟩ := g4.get z2
            refine ⟨⟨vs, us, x, y, g1, g3, x1, y1⟩, fun v H'' yl => ?_⟩
            obtain ⟨t, x', y', rfl, ht, rfl, w1, w2⟩ := yl
            have e1 := w1 vs g1
            have e2 := w2 us g3
            rw [x1] at e1
            rw [y1] at e2
            cases e1
            cases e2
            exact pair_new rs ht x2 y2
      · simp only [srcEnd, srcOk, Bool.and_self, Bool.and_true, Bool.or_eq_true, decide_eq_true_eq] at e
        exact ⟨vs, us, g1, g3, by rw [← g2.length, ← g4.length]; exact e⟩
  | enu p =>
    rcases h with ⟨a, h1, rfl⟩ | ⟨xs, a, vs0, rfl, h1, h2, rfl⟩
    rotate_left
    · have k1 := l.tup a vs0 h1
      have k2 := h2.up l
      refine ⟨fun d e => ?_, fun e => ⟨vs0, k1, by
        simp only [srcEnd, decide_eq_true_eq] at e
        rw [← k2.length]; exact e⟩⟩
      simp only [srcGet] at e
      obtain ⟨d1, z1, e1⟩ := Option.map_eq_some_iff.mp e
      subst e1
      obtain ⟨x, x1, x2⟩ := k2.get z1
      refine ⟨⟨vs0, x, k1, x1⟩, fun v H'' yl => ?_⟩
      obtain ⟨t, x', rfl, ht, rfl, w1⟩ := yl
      have e1 := w1 vs0 k1
      rw [x1] at e1
      cases e1
      exact pair_new rs ht mk_int x2
    refine ⟨fun d e => ?_, fun e => (by
      have e : srcEnd p i s = true := by simpa only [srcEnd] using e
      obtain ⟨vs, ds, q1, q2, q3, q4⟩ := relA_now h1 l rs (ok_end h1 e)
      exact ⟨vs, q1, by rw [← q2.length]; exact q4 i e⟩)⟩
    have z0 : ∃ x, srcGet p i s = some x := by
      simp only [srcGet] at e
      obtain ⟨x, z1, _⟩ := Option.map_eq_some_iff.mp e
      exact ⟨x, z1⟩
    obtain ⟨_, z1⟩ := z0
    obtain ⟨vs, ds, q1, q2, q3, q4⟩ := relA_now h1 l rs (ok_get h1 z1)
    clear z1
    simp only [srcGet, q3] at e
    obtain ⟨d1, z1, e1⟩ := Option.map_eq_some_iff.mp e
    subst e1
    obtain ⟨x, x1, x2⟩ := q2.get z1
    refine ⟨⟨vs, x, q1, x1⟩, fun v H'' yl => ?_⟩
    obtain ⟨t, x', rfl, ht, rfl, w1⟩ := yl
    have e1 := w1 vs q1
    rw [x1] at e1
    cases e1
    exact pair_new rs ht mk_int x2
theorem mapG_len {β : Type} {f : D → Sto → R β} {src : Src} : ∀ {k i : Nat} {s s' : Sto} {ys : List β}, mapG f src k i s = .ok ys s' → ys.length = k
  | 0, i, s, s', ys, h => by
    simp only [mapG] at h
    split at h
    · cases h; rfl
    · cases h
  | k + 1, i, s, s', ys, h => by
    simp only [mapG] at h
    split at h
    · rename_i d _
      cases q : f d s with
      | no => rw [q] at h; cases h
      | ex _ _ _ => rw [q] at h; cases h
      | ok x s1 =>
        rw [q] at h
        simp only [R.bind_ok] at h
        cases q2 : mapG f src k (i + 1) s1 with
        | no => rw [q2] at h; cases h
        | ex _ _ _ => rw [q2] at h; cases h
        | ok xs s2 =>
          rw [q2] at h
          simp only [R.bind_ok, R.ok.injEq] at h
          rw [← h.1, List.length_cons, mapG_len q2]
    · cases h
theorem fin_no {K : PySem.W.Frag} {α β : Type} {rel : Rl α β} {φ : Fz} {μ : List Addr} {H : Hp} {σ : St} {Q : β → Hp → Prop} (h : Fin K W rel φ μ H σ (.no : R α) Q) : False := h
theorem setAll_env_len : ∀ {is : List Nat} {ds : List D} {env env' : Env}, setAll env is ds = some env' → env'.length = env.length
  | [], [], _, _, h => by cases h; rfl
  | [], _ :: _, _, _, h => by cases h
  | _ :: _, [], _, _, h => by cases h
  | i :: is, d :: ds, env, env', h => by rw [setAll_env_len (env := env.set i (some d)) h, List.length_set]
theorem set1_env_len : ∀ {ts : List T1} {ds : List D} {env env' : Env}, set1 env ts ds = some env' → env'.length = env.length
  | [], [], _, _, h => by cases h; rfl
  | [], _ :: _, _, _, h => by cases h
  | _ :: _, [], _, _, h => by cases h
  | .a i :: ts, d :: ds, env, env', h => by rw [set1_env_len (env := env.set i (some d)) h, List.length_set]
  | .b is :: ts, d :: ds, env, env', h => by
    simp only [set1] at h
    split at h <;> first | (cases h; done) | skip
    split at h <;> first | (cases h; done) | skip
    rename_i env1 z
    rw [set1_env_len h, setAll_env_len z]
theorem bindTg_len {tg : Tg} {d : D} {env env' : Env} (h : bindTg tg d env = some env') : env'.length = env.length := by
  cases tg with
  | nm i => cases h; exact List.length_set ..
  | tp is =>
    cases d <;> first | cases h | skip
    exact setAll_env_len (show setAll env is _ = some env' from h)
  | tn ts =>
    cases d <;> first | cases h | skip
    exact set1_env_len (show set1 env ts _ = some env' from h)
theorem wipe_env_len {env : Env} : ∀ {own : List Nat}, (wipe env own).length = env.length
  | [] => rfl
  | i :: r => by unfold wipe; rw [List.length_set]; exact wipe_env_len
theorem mapG_noex {β : Type} {f : D → Sto → R β} (hf : ∀ d s c v s', f d s ≠ .ex c v s') {src : Src} : ∀ {k i : Nat} {s : Sto} {c v s'}, mapG f src k i s ≠ .ex c v s'
  | 0, i, s, c, v, s', h => by
    simp only [mapG] at h
    split at h <;> cases h
  | k + 1, i, s, c, v, s', h => by
    simp only [mapG] at h
    split at h
    · rename_i d _
      cases q : f d s with
      | no => rw [q] at h; cases h
      | ex _ _ _ => exact hf _ _ _ _ _ q
      | ok x s1 =>
        rw [q] at h
        simp only [R.bind_ok] at h
        cases q2 : mapG f src k (i + 1) s1 with
        | no => rw [q2] at h; cases h
        | ex _ _ _ => exact mapG_noex hf q2
        | ok xs s2 => rw [q2] at h; cases h
    · cases h
theorem turnC_noex {tg : Tg} {own : List Nat} {env : Env} {f : Env → Sto → R P} (d : D) (s : Sto) (c : String) (v : D) (s' : Sto) : turnC tg own env f d s ≠ .ex c v s' := by
  unfold turnC
  split
  · generalize (f _ s).bind lay = r
    cases r <;> exact (fun z => nomatch z)
  · exact (fun z => nomatch z)
/-- the environment of a block -/
theorem Good.blk {scope : Scope} {s : Shared} {H : Hp} {A : Addr} {cl : List (Str × Addr)} {fp : List Addr} (G : Good T xc o W k C X) : Good T xc o WF k (blk C scope) (X.blk s H scope (compEnvC scope cl A X.env) fp) := by
  refine ⟨G.calm, G.nd, G.N, ?_, rfl, G.free, G.room, G.guards, takes0, PassesOwn.never, G.glo, G.call, G.fld, G.mkr, G.lam, G.th, (fun z => nomatch z), (fun z => nomatch z), G.lamg, G.thk, G.prp, G.errs, G.mth⟩
  show relS scope X.env.scope = relS scope C.sc
  rw [G.sc]
/-- a comprehension's reading -/
theorem lc_rd {elt it : E} {tg : Tg} {own : List Nat} {σ : St} {H : Hp} {Q : VK} (h5 : tgIn0 own tg = true) (h0 : xc.th ≠ none → ∀ i ∈ own, i ≠ 0) : rdP X.K xc o W (.lc elt tg it own) σ H Q → tLc (rdI X.K xc o W it) (gB xc X.K tg) tYes (rdE X.K xc o WF elt) own σ H Q := by
  rintro ⟨φ, μ, env, s, rs, re, h⟩
  simp only [ev] at h
  refine ⟨φ, μ, env, s, rs, re, ?_⟩
  have h' : Fin X.K W (relP X.K) φ μ H σ ((evi o it env s).bind fun src s2 => (mapSrc (turnC tg own env fun env' s => ev o elt env' s) src s2).bind fun ds s3 => if ds.length ≤ sizeMax then .ok (.new ds) s3 else .no) Q := by
    revert h
    unfold evi
    generalize ev o it env s = r
    intro h
    cases r with
    | no => exact h
    | ex c d s' => exact h
    | ok p s' => exact h
  clear h
  refine Fin.bind h' fun src s0 φ0 μ0 H0 J l0 rs0 rj h => ?_
  intro D hD
  have n1 : ∀ b, (b, D) ∉ φ0 := fun b hb => rs0.here _ hb hD
  have n2 : D ∉ μ0 := fun hm => rs0.here_mu hm hD
  have re0 := re.up l0
  have lD := Le.new (K := X.K) (φ := φ0) (μ := μ0) (H := H0) (p := D) (o := .lst []) hD rs0.here
  obtain ⟨rsD, leD⟩ := (rs0.beside (o := .lst []) hD).aside (a := D) false ⟨_, upd_same, fun _ z => nomatch z⟩ n1 n2
  let f := turnC tg own env fun env' s => ev o elt env' s
  refine ⟨fun i m Hh => ∃ φc μc sc done dvs, (false, D) ∈ φc ∧ Hh D = some (.lst dvs) ∧ RelL X.K φc μc Hh done dvs ∧ RelS X.K φc μc Hh sc ∧ Le X.K φ0 μ0 H0 φc μc Hh ∧
    Fin X.K W (relP X.K) φ0 μ0 H0 σ ((mapG f src m i sc).bind fun ds s3 => if (done ++ ds).length ≤ sizeMax then .ok (.new (done ++ ds)) s3 else .no) Q, ⟨srcLen src, (false, D) :: φ0, μ0, s0, [], [], List.mem_cons_self, upd_same, .nil, rsD, lD.trans leD, by exact h⟩, ?_⟩
  rintro i m Hh ⟨φc, μc, sc, done, dvs, z1, z2, z3, z4, z5, z6⟩
  obtain ⟨t1, t2⟩ := relI_step rj z5 z4
  cases m with
  | zero =>
    simp only [mapG] at z6
    by_cases he : srcEnd src i sc = true
    · refine .inl ⟨t2 he, ?_⟩
      rw [if_pos he] at z6
      simp only [R.bind_ok, List.append_nil] at z6
      by_cases hl : done.length ≤ sizeMax
      · rw [if_pos hl] at z6
        refine z6 (drp φc D) μc Hh (.ref D) (z5.drp n1) z4.drp ⟨D, dvs, rfl, z2, fun b hb => ?_, fun hm => z4.apart _ z1 hm, z3.drp⟩
        obtain ⟨b1, b2⟩ := of_drp hb
        cases b with
        | false => exact b2 rfl
        | true => exact z4.one _ z1 b1
      · rw [if_neg hl] at z6; exact z6.elim
    · rw [if_neg he] at z6; exact z6.elim
  | succ m =>
    simp only [mapG] at z6
    cases q : srcGet src i sc with
    | none => rw [q] at z6; exact z6.elim
    | some d =>
      rw [q] at z6
      simp only at z6
      obtain ⟨g1, g2⟩ := t1 d q
      refine .inr ⟨g1, fun H' => ∃ φc μc sc done dvs, (false, D) ∈ φc ∧ H' D = some (.lst dvs) ∧ RelL X.K φc μc H' done dvs ∧ RelS X.K φc μc H' sc ∧ Le X.K φ0 μ0 H0 φc μc H' ∧
        Fin X.K W (relP X.K) φ0 μ0 H0 σ ((mapG f src m (i + 1) sc).bind fun ds s3 => if (done ++ ds).length ≤ sizeMax then .ok (.new (done ++ ds)) s3 else .no) Q, fun H' w => ⟨m, Nat.lt_succ_self m, w⟩, fun x H'' y => ?_⟩
      obtain ⟨y1, y2, y3⟩ := g2 x H'' y
      have z2' : H'' D = some (.lst dvs) := (y1.set _ z1).trans z2
      cases qb : bindTg tg d (wipe env own) with
      | none =>
        have : f d sc = .no := by show turnC _ _ _ _ _ _ = _; unfold turnC; rw [qb]
        rw [this] at z6
        exact z6.elim
      | some env' =>
        have hf : f d sc = (evv o elt env' sc).nox := by show turnC _ _ _ _ _ _ = _; unfold turnC evv; rw [qb]
        rw [hf] at z6
        have rew : RelE xc X.K φc μc H'' (wipe env own) (L2.wipe σ own) := wipe_rel h0 (RelE.up y1 (RelE.up z5 re0))
        refine ⟨φc, μc, wipe env own, d, env', rew, y3, qb, fun (σ' : St) re' hσ => ⟨?_, ?_⟩⟩
        · refine wipe_same ?_ fun j hj => ?_
          · rw [← re'.len, bindTg_len qb, wipe_env_len, re.len]
          · rw [hσ j fun hm => hj (tgIn_slots h5 j hm)]
            exact wipe_out hj
        · unfold tYes
          simp only [if_true]
          refine ⟨φc, μc, env', sc, y2, re', ?_⟩
          revert z6
          generalize evv o elt env' sc = r
          intro z6
          cases r with
          | no => exact z6.elim
          | ex c v s' => exact z6.elim
          | ok yd s1 =>
            simp only [R.nox_ok, R.bind_ok] at z6
            intro φ' μ' H4 b l' rs4 rb
            have w1 : (false, D) ∈ φ' := l'.fz _ z1
            have w2 : H4 D = some (.lst dvs) := (l'.set _ z1).trans z2'
            have w3 : RelL X.K φ' μ' H4 done dvs := (z3.up y1).up l'
            have hlen : done.length < sizeMax ∧ Fin X.K W (relP X.K) φ0 μ0 H0 σ ((mapG f src m (i + 1) s1).bind fun ds s3 => if ((done ++ [yd]) ++ ds).length ≤ sizeMax then .ok (.new ((done ++ [yd]) ++ ds)) s3 else .no) Q := by
              cases q3 : mapG f src m (i + 1) s1 with
              | no => rw [q3] at z6; exact z6.elim
              | ex c v s' => exact (mapG_noex (fun d s c v s' => turnC_noex d s c v s') q3).elim
              | ok ds s3 =>
                rw [q3] at z6
                simp only [R.bind_ok] at z6 ⊢
                rw [List.append_assoc]
                refine ⟨?_, z6⟩
                by_cases hl : (done ++ yd :: ds).length ≤ sizeMax
                · rw [List.length_append, List.length_cons] at hl; omega
                · rw [if_neg hl] at z6; exact z6.elim
            refine ⟨dvs, w2, by rw [← w3.length]; exact lt_line hlen.1, φ', μ', s1, done ++ [yd], dvs ++ [b], w1, upd_same, ?_, rs4.alone w1 w2 Mov.lst, ((z5.trans y1).trans l').alone n1 w2 Mov.lst, hlen.2⟩
            exact RelL.alone w1 rs4.one w2 Mov.lst (w3.append (.cons rb .nil))
theorem s_lc {m : Md} {elt it : E} {tg : Tg} {own : List Nat} {e : Expr} (G : Good T xc o W k C X) (ii : ∀ l tg', mtE T (tgM tg') C it l = true → PI X tg' l (rdI X.K xc o W it))
    (ie : ∀ (C' : SC) (X' : Cx), Good T xc o WF k C' X' → IhE T xc o WF C' X' elt) (h : mtE T m C (.lc elt tg it own) e = true) : PE X e (rdP X.K xc o W (.lc elt tg it own)) := by
  simp only [mtE] at h
  split at h <;> first | cases h | skip
  rename_i elt' tg' it' scope pos
  simp only [Bool.and_eq_true] at h
  obtain ⟨⟨⟨⟨⟨h1, h2⟩, h3⟩, h4⟩, h5⟩, h6⟩ := h
  have hown : (own.map fun i => (C.N.getD i "", i)).map (·.2) = own := by
    rw [List.map_map]
    exact List.map_id' own
  have hN : X.N.Nodup := by rw [G.N]; exact G.nd
  have ok : BlkOk X.N X.env.scope scope (own.map fun i => (C.N.getD i "", i)) := by
    rw [G.N, G.sc]
    exact blkOk_by h1
  refine PE.imp (pe_lc (g := gB xc X.K tg) (tt := tYes) (te := rdE X.K xc o WF elt) G.calm hN (ii it' tg' h2) ok (fun s H A cl fp => pg_tg (Good.n (Good.blk G)) h4) (fun _ _ _ _ _ => pts_nil)
    (fun s H A cl fp => to_E (ie _ _ (Good.blk G) elt' h6)) (fun x => folded_none h3)) fun σ H Q => ?_
  rw [hown]
  exact lc_rd (tgIn_1 h5) fun z => tgIn_2 h5 (G.th z)
theorem turnX_noex {tg : Tg} {own : List Nat} {env : Env} {c : Env → Sto → R Bool} {f : Env → Sto → R P} (d : D) (s : Sto) (cc : String) (v : D) (s' : Sto) : turnX tg own env c f d s ≠ .ex cc v s' := by
  unfold turnX
  split
  · generalize (c _ s).bind _ = r
    cases r <;> exact (fun z => nomatch z)
  · exact (fun z => nomatch z)
/-- .. with a condition -/
theorem lcf_rd {elt c it : E} {tg : Tg} {own : List Nat} {σ : St} {H : Hp} {Q : VK} (h5 : tgIn0 own tg = true) (h0 : xc.th ≠ none → ∀ i ∈ own, i ≠ 0) : rdP X.K xc o W (.lcf elt c tg it own) σ H Q → tLc (rdI X.K xc o W it) (gB xc X.K tg) (rdT X.K xc o WF c) (rdE X.K xc o WF elt) own σ H Q := by
  rintro ⟨φ, μ, env, s, rs, re, h⟩
  simp only [ev] at h
  refine ⟨φ, μ, env, s, rs, re, ?_⟩
  have h' : Fin X.K W (relP X.K) φ μ H σ ((evi o it env s).bind fun src s2 => (mapSrc (turnX tg own env (fun env' s => tst o c env' s) fun env' s => ev o elt env' s) src s2).bind fun ds s3 => if ds.length ≤ sizeMax then .ok (.new (ds.filterMap id)) s3 else .no) Q := by
    revert h
    unfold evi
    generalize ev o it env s = r
    intro h
    cases r with
    | no => exact h
    | ex c d s' => exact h
    | ok p s' => exact h
  clear h
  refine Fin.bind h' fun src s0 φ0 μ0 H0 J l0 rs0 rj h => ?_
  intro D hD
  have n1 : ∀ b, (b, D) ∉ φ0 := fun b hb => rs0.here _ hb hD
  have n2 : D ∉ μ0 := fun hm => rs0.here_mu hm hD
  have re0 := re.up l0
  have lD := Le.new (K := X.K) (φ := φ0) (μ := μ0) (H := H0) (p := D) (o := .lst []) hD rs0.here
  obtain ⟨rsD, leD⟩ := (rs0.beside (o := .lst []) hD).aside (a := D) false ⟨_, upd_same, fun _ z => nomatch z⟩ n1 n2
  let f := turnX tg own env (fun env' s => tst o c env' s) fun env' s => ev o elt env' s
  refine ⟨fun i m Hh => ∃ φc μc sc done dvs, ∃ cnt : Nat, done.length ≤ cnt ∧ (false, D) ∈ φc ∧ Hh D = some (.lst dvs) ∧ RelL X.K φc μc Hh done dvs ∧ RelS X.K φc μc Hh sc ∧ Le X.K φ0 μ0 H0 φc μc Hh ∧
    Fin X.K W (relP X.K) φ0 μ0 H0 σ ((mapG f src m i sc).bind fun ds s3 => if cnt + ds.length ≤ sizeMax then .ok (.new (done ++ ds.filterMap id)) s3 else .no) Q, ⟨srcLen src, (false, D) :: φ0, μ0, s0, [], [], 0, Nat.le_refl 0, List.mem_cons_self, upd_same, .nil, rsD, lD.trans leD, by simp only [Nat.zero_add, List.nil_append]; exact h⟩, ?_⟩
  rintro i m Hh ⟨φc, μc, sc, done, dvs, cnt, z0, z1, z2, z3, z4, z5, z6⟩
  obtain ⟨t1, t2⟩ := relI_step rj z5 z4
  cases m with
  | zero =>
    simp only [mapG] at z6
    by_cases he : srcEnd src i sc = true
    · refine .inl ⟨t2 he, ?_⟩
      rw [if_pos he] at z6
      simp only [R.bind_ok, List.filterMap_nil, List.append_nil, List.length_nil, Nat.add_zero] at z6
      by_cases hl : cnt ≤ sizeMax
      · rw [if_pos hl] at z6
        refine z6 (drp φc D) μc Hh (.ref D) (z5.drp n1) z4.drp ⟨D, dvs, rfl, z2, fun b hb => ?_, fun hm => z4.apart _ z1 hm, z3.drp⟩
        obtain ⟨b1, b2⟩ := of_drp hb
        cases b with
        | false => exact b2 rfl
        | true => exact z4.one _ z1 b1
      · rw [if_neg hl] at z6; exact z6.elim
    · rw [if_neg he] at z6; exact z6.elim
  | succ m =>
    simp only [mapG] at z6
    cases q : srcGet src i sc with
    | none => rw [q] at z6; exact z6.elim
    | some d =>
      rw [q] at z6
      simp only at z6
      obtain ⟨g1, g2⟩ := t1 d q
      refine .inr ⟨g1, fun H' => ∃ φc μc sc done dvs, ∃ cnt : Nat, done.length ≤ cnt ∧ (false, D) ∈ φc ∧ H' D = some (.lst dvs) ∧ RelL X.K φc μc H' done dvs ∧ RelS X.K φc μc H' sc ∧ Le X.K φ0 μ0 H0 φc μc H' ∧
        Fin X.K W (relP X.K) φ0 μ0 H0 σ ((mapG f src m (i + 1) sc).bind fun ds s3 => if cnt + ds.length ≤ sizeMax then .ok (.new (done ++ ds.filterMap id)) s3 else .no) Q, fun H' w => ⟨m, Nat.lt_succ_self m, w⟩, fun x H'' y => ?_⟩
      obtain ⟨y1, y2, y3⟩ := g2 x H'' y
      have z2' : H'' D = some (.lst dvs) := (y1.set _ z1).trans z2
      cases qb : bindTg tg d (wipe env own) with
      | none =>
        have : f d sc = .no := by show turnX _ _ _ _ _ _ _ = _; unfold turnX; rw [qb]
        rw [this] at z6
        exact z6.elim
      | some env' =>
        have hf : f d sc = ((tst o c env' sc).bind fun b s1 => if b = true then (evv o elt env' s1).bind fun d s2 => .ok (some d) s2 else .ok none s1).nox := by show turnX _ _ _ _ _ _ _ = _; unfold turnX evv; rw [qb]
        rw [hf] at z6
        have rew : RelE xc X.K φc μc H'' (wipe env own) (L2.wipe σ own) := wipe_rel h0 (RelE.up y1 (RelE.up z5 re0))
        refine ⟨φc, μc, wipe env own, d, env', rew, y3, qb, fun (σ' : St) re' hσ => ⟨?_, ?_⟩⟩
        · refine wipe_same ?_ fun j hj => ?_
          · rw [← re'.len, bindTg_len qb, wipe_env_len, re.len]
          · rw [hσ j fun hm => hj (tgIn_slots h5 j hm)]
            exact wipe_out hj
        · refine ⟨φc, μc, env', sc, y2, re', ?_⟩
          revert z6
          generalize tst o c env' sc = r
          intro z6
          cases r with
          | no => exact z6.elim
          | ex cc v s' => exact z6.elim
          | ok t s1 =>
            intro φ1 μ1 H3 bb l1 rs1 rb
            cases (show t = bb from rb)
            simp only [R.bind_ok] at z6
            have w1 : (false, D) ∈ φ1 := l1.fz _ z1
            have w2 : H3 D = some (.lst dvs) := (l1.set _ z1).trans z2'
            have w3 : RelL X.K φ1 μ1 H3 done dvs := (z3.up y1).up l1
            cases t with
            | false =>
              simp only [Bool.false_eq_true, if_false] at z6 ⊢
              refine ⟨φ1, μ1, s1, done, dvs, cnt + 1, Nat.le_succ_of_le z0, w1, w2, w3, rs1, (z5.trans y1).trans l1, ?_⟩
              revert z6
              simp only [R.nox_ok, R.bind_ok]
              cases q3 : mapG f src m (i + 1) s1 with
              | no => exact fun z => z
              | ex cc v s' => exact fun z => z
              | ok ds s3 =>
                simp only [R.bind_ok, List.filterMap_cons, id, List.length_cons]
                intro z6
                rw [show cnt + 1 + ds.length = cnt + (ds.length + 1) by omega]
                exact z6
            | true =>
              simp only [if_true] at z6 ⊢
              refine ⟨φ1, μ1, env', s1, rs1, re'.up l1, ?_⟩
              revert z6
              generalize evv o elt env' s1 = r
              intro z6
              cases r with
              | no => exact z6.elim
              | ex cc v s' => exact z6.elim
              | ok yd s2 =>
                simp only [R.bind_ok, R.nox_ok] at z6
                intro φ' μ' H4 b l' rs4 rb
                have v1 : (false, D) ∈ φ' := l'.fz _ w1
                have v2 : H4 D = some (.lst dvs) := (l'.set _ w1).trans w2
                have v3 : RelL X.K φ' μ' H4 done dvs := w3.up l'
                have hlen : cnt < sizeMax ∧ Fin X.K W (relP X.K) φ0 μ0 H0 σ ((mapG f src m (i + 1) s2).bind fun ds s3 => if cnt + 1 + ds.length ≤ sizeMax then .ok (.new ((done ++ [yd]) ++ ds.filterMap id)) s3 else .no) Q := by
                  cases q3 : mapG f src m (i + 1) s2 with
                  | no => rw [q3] at z6; exact z6.elim
                  | ex cc v s' => exact (mapG_noex (fun d s c v s' => turnX_noex d s c v s') q3).elim
                  | ok ds s3 =>
                    rw [q3] at z6
                    simp only [R.bind_ok, List.filterMap_cons, id, List.length_cons] at z6 ⊢
                    rw [List.append_assoc, show cnt + 1 + ds.length = cnt + (ds.length + 1) by omega]
                    refine ⟨?_, z6⟩
                    by_cases hl : cnt + (ds.length + 1) ≤ sizeMax
                    · omega
                    · rw [if_neg hl] at z6; exact z6.elim
                refine ⟨dvs, v2, by rw [← v3.length]; exact lt_line (Nat.lt_of_le_of_lt z0 hlen.1), φ', μ', s2, done ++ [yd], dvs ++ [b], cnt + 1, by rw [List.length_append]; exact Nat.succ_le_succ z0, v1, upd_same, ?_, rs4.alone v1 v2 Mov.lst, (((z5.trans y1).trans l1).trans l').alone n1 v2 Mov.lst, hlen.2⟩
                exact RelL.alone v1 rs4.one v2 Mov.lst (v3.append (.cons rb .nil))
theorem s_lcf {m : Md} {elt c it : E} {tg : Tg} {own : List Nat} {e : Expr} (G : Good T xc o W k C X) (ii : ∀ l tg', mtE T (tgM tg') C it l = true → PI X tg' l (rdI X.K xc o W it))
    (ic : ∀ (C' : SC) (X' : Cx), Good T xc o WF k C' X' → ∀ x, mtE T .t C' c x = true → PT X' x (rdT X'.K xc o WF c)) (ie : ∀ (C' : SC) (X' : Cx), Good T xc o WF k C' X' → IhE T xc o WF C' X' elt) (h : mtE T m C (.lcf elt c tg it own) e = true) : PE X e (rdP X.K xc o W (.lcf elt c tg it own)) := by
  simp only [mtE] at h
  split at h <;> first | cases h | skip
  rename_i elt' tg' it' c' scope pos
  simp only [Bool.and_eq_true] at h
  obtain ⟨⟨⟨⟨⟨⟨h1, h2⟩, h3⟩, h4⟩, h5⟩, h7⟩, h6⟩ := h
  have hown : (own.map fun i => (C.N.getD i "", i)).map (·.2) = own := by
    rw [List.map_map]
    exact List.map_id' own
  have hN : X.N.Nodup := by rw [G.N]; exact G.nd
  have ok : BlkOk X.N X.env.scope scope (own.map fun i => (C.N.getD i "", i)) := by
    rw [G.N, G.sc]
    exact blkOk_by h1
  refine PE.imp (pe_lc (g := gB xc X.K tg) (tt := rdT X.K xc o WF c) (te := rdE X.K xc o WF elt) G.calm hN (ii it' tg' h2) ok (fun s H A cl fp => pg_tg (Good.n (Good.blk G)) h4) (fun s H A cl fp => pts_one (ic _ _ (Good.blk G) c' h7))
    (fun s H A cl fp => to_E (ie _ _ (Good.blk G) elt' h6)) (fun x => folded_none h3)) fun σ H Q => ?_
  rw [hown]
  exact lcf_rd (tgIn_1 h5) fun z => tgIn_2 h5 (G.th z)
theorem turnK_noex {tg : Tg} {own : List Nat} {env : Env} {c : Env → Sto → R Bool} {f g : Env → Sto → R P} (d : D) (s : Sto) (cc : String) (v : D) (s' : Sto) : turnK tg own env c f g d s ≠ .ex cc v s' := by
  unfold turnK
  split
  · generalize (c _ s).bind _ = r
    cases r <;> exact (fun z => nomatch z)
  · exact (fun z => nomatch z)
theorem kMerge_cons (done : List (Ky × D)) (k : Ky) (v : D) (r : List (Ky × D)) : kMerge done ((k, v) :: r) = kMerge (kPut done k v) r := rfl
/-- a dict comprehension's reading -/
theorem dc_rd {kx vx c it : E} {tg : Tg} {own : List Nat} {σ : St} {H : Hp} {Q : VK} (h5 : tgIn0 own tg = true) (h0 : xc.th ≠ none → ∀ i ∈ own, i ≠ 0) : rdP X.K xc o W (.dc kx vx c tg it own) σ H Q → tDc (rdI X.K xc o W it) (gB xc X.K tg) (rdT X.K xc o WF c) (rdE X.K xc o WF kx) (rdE X.K xc o WF vx) own σ H Q := by
  rintro ⟨φ, μ, env, s, rs, re, h⟩
  simp only [ev] at h
  refine ⟨φ, μ, env, s, rs, re, ?_⟩
  have h' : Fin X.K W (relP X.K) φ μ H σ ((evi o it env s).bind fun src s2 => (mapSrc (turnK tg own env (fun env' s => tst o c env' s) (fun env' s => ev o kx env' s) fun env' s => ev o vx env' s) src s2).bind fun ds s3 => if 0 + ds.length ≤ sizeMax then okv (.loc s3.length) (s3 ++ [.dk (kMerge [] (ds.filterMap id))]) else .no) Q := by
    simp only [Nat.zero_add]
    revert h
    unfold evi
    generalize ev o it env s = r
    intro h
    cases r with
    | no => exact h
    | ex c d s' => exact h
    | ok p s' => exact h
  clear h
  refine Fin.bind h' fun src s0 φ0 μ0 H0 J l0 rs0 rj h => ?_
  intro D hD
  have n1 : ∀ b, (b, D) ∉ φ0 := fun b hb => rs0.here _ hb hD
  have n2 : D ∉ μ0 := fun hm => rs0.here_mu hm hD
  have re0 := re.up l0
  have lD := Le.new (K := X.K) (φ := φ0) (μ := μ0) (H := H0) (p := D) (o := .dK []) hD rs0.here
  obtain ⟨rsD, leD⟩ := (rs0.beside (o := .dK []) hD).aside (a := D) false ⟨_, upd_same, fun _ z => nomatch z⟩ n1 n2
  let f := turnK tg own env (fun env' s => tst o c env' s) (fun env' s => ev o kx env' s) fun env' s => ev o vx env' s
  refine ⟨fun i m Hh => ∃ φc μc sc done dvs, ∃ cnt : Nat, done.length ≤ cnt ∧ (false, D) ∈ φc ∧ Hh D = some (.dK dvs) ∧ RelM X.K φc μc Hh done dvs ∧ RelS X.K φc μc Hh sc ∧ Le X.K φ0 μ0 H0 φc μc Hh ∧
    Fin X.K W (relP X.K) φ0 μ0 H0 σ ((mapG f src m i sc).bind fun ds s3 => if cnt + ds.length ≤ sizeMax then okv (.loc s3.length) (s3 ++ [.dk (kMerge done (ds.filterMap id))]) else .no) Q, ⟨srcLen src, (false, D) :: φ0, μ0, s0, [], [], 0, Nat.le_refl 0, List.mem_cons_self, upd_same, .nil, rsD, lD.trans leD, by exact h⟩, ?_⟩
  rintro i m Hh ⟨φc, μc, sc, done, dvs, cnt, z0, z1, z2, z3, z4, z5, z6⟩
  obtain ⟨t1, t2⟩ := relI_step rj z5 z4
  cases m with
  | zero =>
    simp only [mapG] at z6
    by_cases he : srcEnd src i sc = true
    · refine .inl ⟨t2 he, ?_⟩
      rw [if_pos he] at z6
      simp only [R.bind_ok, List.filterMap_nil, List.length_nil, Nat.add_zero] at z6
      by_cases hl : cnt ≤ sizeMax
      · rw [if_pos hl] at z6
        have nd : ∀ b, (b, D) ∉ drp φc D := fun b hb => by
          obtain ⟨b1, b2⟩ := of_drp hb
          cases b with
          | false => exact b2 rfl
          | true => exact z4.one _ z1 b1
        have z3' : RelM X.K (drp φc D) μc Hh done dvs := ⟨z3.1, z3.2.drp⟩
        obtain ⟨p1, p2⟩ := z4.drp.placeC (cn := .dk done) ⟨dvs, z2, z3'⟩ nd (fun hm => z4.apart _ z1 hm)
        exact z6 (drp φc D) (μc ++ [D]) Hh (.ref D) ((z5.drp n1).trans Le.grow) p1 (show RelD X.K (drp φc D) (μc ++ [D]) Hh (.loc sc.length) (.ref D) from mk_loc p2)
      · rw [if_neg hl] at z6; exact z6.elim
    · rw [if_neg he] at z6; exact z6.elim
  | succ m =>
    simp only [mapG] at z6
    cases q : srcGet src i sc with
    | none => rw [q] at z6; exact z6.elim
    | some d =>
      rw [q] at z6
      simp only at z6
      obtain ⟨g1, g2⟩ := t1 d q
      refine .inr ⟨g1, fun H' => ∃ φc μc sc done dvs, ∃ cnt : Nat, done.length ≤ cnt ∧ (false, D) ∈ φc ∧ H' D = some (.dK dvs) ∧ RelM X.K φc μc H' done dvs ∧ RelS X.K φc μc H' sc ∧ Le X.K φ0 μ0 H0 φc μc H' ∧
        Fin X.K W (relP X.K) φ0 μ0 H0 σ ((mapG f src m (i + 1) sc).bind fun ds s3 => if cnt + ds.length ≤ sizeMax then okv (.loc s3.length) (s3 ++ [.dk (kMerge done (ds.filterMap id))]) else .no) Q, fun H' w => ⟨m, Nat.lt_succ_self m, w⟩, fun x H'' y => ?_⟩
      obtain ⟨y1, y2, y3⟩ := g2 x H'' y
      have z2' : H'' D = some (.dK dvs) := (y1.set _ z1).trans z2
      cases qb : bindTg tg d (wipe env own) with
      | none =>
        have : f d sc = .no := by show turnK _ _ _ _ _ _ _ _ = _; unfold turnK; rw [qb]
        rw [this] at z6
        exact z6.elim
      | some env' =>
        have hf : f d sc = ((tst o c env' sc).bind fun b s1 => if b = true then (evv o kx env' s1).bind fun kd s2 => (match keyOf kd with
            | some k => (evv o vx env' s2).bind fun v s3 => .ok (some (k, v)) s3
            | none => .no) else .ok none s1).nox := by show turnK _ _ _ _ _ _ _ _ = _; unfold turnK evv; rw [qb] <;> rfl
        rw [hf] at z6
        have rew : RelE xc X.K φc μc H'' (wipe env own) (L2.wipe σ own) := wipe_rel h0 (RelE.up y1 (RelE.up z5 re0))
        refine ⟨φc, μc, wipe env own, d, env', rew, y3, qb, fun (σ' : St) re' hσ => ⟨?_, ?_⟩⟩
        · refine wipe_same ?_ fun j hj => ?_
          · rw [← re'.len, bindTg_len qb, wipe_env_len, re.len]
          · rw [hσ j fun hm => hj (tgIn_slots h5 j hm)]
            exact wipe_out hj
        · refine ⟨φc, μc, env', sc, y2, re', ?_⟩
          revert z6
          generalize tst o c env' sc = r
          intro z6
          cases r with
          | no => exact z6.elim
          | ex cc v s' => exact z6.elim
          | ok t s1 =>
            intro φ1 μ1 H3 bb l1 rs1 rb
            cases (show t = bb from rb)
            simp only [R.bind_ok] at z6
            have w1 : (false, D) ∈ φ1 := l1.fz _ z1
            have w2 : H3 D = some (.dK dvs) := (l1.set _ z1).trans z2'
            have w3 : RelM X.K φ1 μ1 H3 done dvs := (z3.up y1).up l1
            cases t with
            | false =>
              simp only [Bool.false_eq_true, if_false] at z6 ⊢
              refine ⟨φ1, μ1, s1, done, dvs, cnt + 1, Nat.le_succ_of_le z0, w1, w2, w3, rs1, (z5.trans y1).trans l1, ?_⟩
              revert z6
              simp only [R.nox_ok, R.bind_ok]
              cases q3 : mapG f src m (i + 1) s1 with
              | no => exact fun z => z
              | ex cc v s' => exact fun z => z
              | ok ds s3 =>
                simp only [R.bind_ok, List.filterMap_cons, id, List.length_cons]
                intro z6
                rw [show cnt + 1 + ds.length = cnt + (ds.length + 1) by omega]
                exact z6
            | true =>
              simp only [if_true] at z6 ⊢
              refine ⟨φ1, μ1, env', s1, rs1, re'.up l1, ?_⟩
              revert z6
              generalize evv o kx env' s1 = r
              intro z6
              cases r with
              | no => exact z6.elim
              | ex cc v s' => exact z6.elim
              | ok kd s2 =>
                simp only [R.bind_ok] at z6
                intro φ2 μ2 H4 kv l2 rs2 rk
                cases qk : keyOf kd with
                | none => rw [qk] at z6; exact z6.elim
                | some ky =>
                rw [qk] at z6
                simp only at z6
                have u1 : (false, D) ∈ φ2 := l2.fz _ w1
                have u2 : H4 D = some (.dK dvs) := (l2.set _ w1).trans w2
                have u3 : RelM X.K φ2 μ2 H4 done dvs := w3.up l2
                refine ⟨φ2, μ2, env', s2, rs2, (re'.up l1).up l2, ?_⟩
                revert z6
                generalize evv o vx env' s2 = r
                intro z6
                cases r with
                | no => exact z6.elim
                | ex cc v s' => exact z6.elim
                | ok vd s3 =>
                  simp only [R.bind_ok, R.nox_ok] at z6
                  intro φ' μ' H5 b l' rs5 rb
                  have v1 : (false, D) ∈ φ' := l'.fz _ u1
                  have v2 : H5 D = some (.dK dvs) := (l'.set _ u1).trans u2
                  have v3 : RelM X.K φ' μ' H5 done dvs := u3.up l'
                  have hlen : cnt < sizeMax ∧ Fin X.K W (relP X.K) φ0 μ0 H0 σ ((mapG f src m (i + 1) s3).bind fun ds s3 => if cnt + 1 + ds.length ≤ sizeMax then okv (.loc s3.length) (s3 ++ [.dk (kMerge (kPut done ky vd) (ds.filterMap id))]) else .no) Q := by
                    cases q3 : mapG f src m (i + 1) s3 with
                    | no => rw [q3] at z6; exact z6.elim
                    | ex cc v s' => exact (mapG_noex (fun d s c v s' => turnK_noex d s c v s') q3).elim
                    | ok ds s4 =>
                      rw [q3] at z6
                      simp only [R.bind_ok, List.filterMap_cons, id, List.length_cons, kMerge_cons] at z6 ⊢
                      rw [show cnt + 1 + ds.length = cnt + (ds.length + 1) by omega]
                      refine ⟨?_, z6⟩
                      by_cases hl : cnt + (ds.length + 1) ≤ sizeMax
                      · omega
                      · rw [if_neg hl] at z6; exact z6.elim
                  have v4 : RelM X.K φ' μ' (upd H5 D (.dK (putK dvs ky b))) (kPut done ky vd) (putK dvs ky b) := by
                    have g := v3.put ky rb
                    exact ⟨g.1, RelL.alone v1 rs5.one v2 Mov.dK g.2⟩
                  refine ⟨dvs, ky, key_rel (rk.up l') qk, v2, by rw [← v3.length]; exact lt_line (Nat.lt_of_le_of_lt z0 hlen.1), φ', μ', s3, kPut done ky vd, putK dvs ky b, cnt + 1, ?_, v1, upd_same, v4, rs5.alone v1 v2 Mov.dK, ((((z5.trans y1).trans l1).trans l2).trans l').alone n1 v2 Mov.dK, hlen.2⟩
                  have g1 := v4.length
                  have g2 := length_putK dvs ky b
                  have g3 := v3.length
                  omega
theorem pts_imp {X : Cx} {es : List Expr} {t t' : TT} (h : PTs X es t) (i : ∀ σ H Q, t' σ H Q → t σ H Q) : PTs X es t' := ⟨fun pins s σ H Q I q => h.run pins s σ H Q I (i σ H Q q)⟩
theorem yes_rd {K : PySem.W.Frag} {c : E} (h : isYes c = true) : ∀ σ H Q, rdT K xc o W c σ H Q → tYes σ H Q := by
  rintro σ H Q ⟨φ, μ, env, s, rs, re, h2⟩
  unfold isYes at h
  split at h <;> first | (cases h; done) | skip
  unfold tst at h2
  simp only [ev, okv_eq, R.bindv_val, truth, R.ofO_some] at h2
  exact h2.here rs rfl
/-- the parts of a dict comprehension -/
theorem dc_parts {m : Md} {kx vx c it : E} {tg : Tg} {own : List Nat} {e : Expr} (G : Good T xc o W k C X)
    (ic : ∀ (C' : SC) (X' : Cx), Good T xc o WF k C' X' → ∀ x, mtE T .t C' c x = true → PT X' x (rdT X'.K xc o WF c)) (h : mtE T m C (.dc kx vx c tg it own) e = true) :
    ∃ kx' vx' tg' it' ifs scope pos, e = .DictComp kx' vx' [⟨tg', it', ifs, 0⟩] scope pos ∧ mtE T (tgM tg') C it it' = true ∧ notSet it' = true ∧ BlkOk X.N X.env.scope scope (own.map fun i => (C.N.getD i "", i)) ∧ mtTg (blk C scope) tg tg' = true ∧ tgIn C own tg = true ∧
      mtE T .v (blk C scope) kx kx' = true ∧ mtE T .v (blk C scope) vx vx' = true ∧ ∀ (s : Shared) (H : Hp) (A : Addr) (cl : List (Str × Addr)) (fp : List Addr), PTs (X.blk s H scope (compEnvC scope cl A X.env) fp) ifs (rdT X.K xc o WF c) := by
  simp only [mtE] at h
  split at h <;> first | cases h | skip
  rename_i kx' vx' tg' it' ifs scope pos
  simp only [Bool.and_eq_true] at h
  obtain ⟨⟨⟨⟨⟨⟨⟨h1, h2⟩, h3⟩, h4⟩, h5⟩, h7⟩, h6⟩, h8⟩ := h
  have ok : BlkOk X.N X.env.scope scope (own.map fun i => (C.N.getD i "", i)) := by
    rw [G.N, G.sc]
    exact blkOk_by h1
  refine ⟨kx', vx', tg', it', ifs, scope, pos, rfl, h2, h3, ok, h4, h5, h6, h8, fun s H A cl fp => ?_⟩
  split at h7
  · exact pts_imp pts_nil (yes_rd h7)
  · exact pts_one (ic _ _ (Good.blk G) _ h7)
  · cases h7
theorem s_dc {m : Md} {kx vx c it : E} {tg : Tg} {own : List Nat} {e : Expr} (G : Good T xc o W k C X) (ii : ∀ l tg', mtE T (tgM tg') C it l = true → PI X tg' l (rdI X.K xc o W it))
    (ic : ∀ (C' : SC) (X' : Cx), Good T xc o WF k C' X' → ∀ x, mtE T .t C' c x = true → PT X' x (rdT X'.K xc o WF c)) (ik : ∀ (C' : SC) (X' : Cx), Good T xc o WF k C' X' → IhE T xc o WF C' X' kx) (iv : ∀ (C' : SC) (X' : Cx), Good T xc o WF k C' X' → IhE T xc o WF C' X' vx)
    (h : mtE T m C (.dc kx vx c tg it own) e = true) : PE X e (rdP X.K xc o W (.dc kx vx c tg it own)) := by
  obtain ⟨kx', vx', tg', it', ifs, scope, pos, rfl, h2, h3, ok, h4, h5, h6, h8, hp⟩ := dc_parts G ic h
  have hown : (own.map fun i => (C.N.getD i "", i)).map (·.2) = own := by
    rw [List.map_map]
    exact List.map_id' own
  have hN : X.N.Nodup := by rw [G.N]; exact G.nd
  refine PE.imp (pe_dc (g := gB xc X.K tg) (tt := rdT X.K xc o WF c) (tk := rdE X.K xc o WF kx) (tv := rdE X.K xc o WF vx) G.calm hN (ii it' tg' h2) ok (fun s H A cl fp => pg_tg (Good.n (Good.blk G)) h4) hp
    (fun s H A cl fp => to_E (ik _ _ (Good.blk G) kx' h6)) (fun s H A cl fp => to_E (iv _ _ (Good.blk G) vx' h8)) (fun x => folded_none h3)) fun σ H Q => ?_
  rw [hown]
  exact dc_rd (tgIn_1 h5) fun z => tgIn_2 h5 (G.th z)
end
end Mi

/-! # Dicts, instances, dead code -/
namespace Mi
open PySem PySem.Spec PyProof.Rows L2
theorem meth_tree {o : Expr} {m : Str} {apos pos : Pos} {args : List Expr} {env : PySem.Env} (h : notCall0 o = true) (hs : noStars args = true) (hn : args.length < 29) (hl : (apos.endLine == pos.line) = true) : eval (.Call (.Attribute o m apos) args [] pos) env = (do
      let ov ← eval o env
      standAt apos.atName
      let (f, first) ← holding [ov] (getMethod ov m (do return (← importBound o env).getD true))
      callWith pos f first (backTo pos (starEach args env)) (backToKw pos (keywordEach [] env))) := by
  have few : methodCallForm (args.length + ([] : List Keyword).length) (backTo pos (starEach args env)) (backToKw pos (keywordEach [] env)) = true := few_args hs hn
  have hp : methodCallPos true o env apos pos = pure pos := by
    unfold methodCallPos
    rw [hl]
    rfl
  rw [arm_eval_Call, base_plain h]
  unfold methodCall
  rw [few, hp]
  rfl
theorem under_guards {A : Around} {C : Addr} {us : List Value} (h : A.guards = some []) : (A.under (.builtin "type.__call__" ⟨.ref C :: us, []⟩)).guards = some [] := by
  have g : (Code.builtin "type.__call__" ⟨.ref C :: us, []⟩).isGuard = false := by
    show _ = _
    rfl
  unfold Around.under Code.guards
  rw [g]
  exact h
section
variable {X : Cx} {pins : List (Addr × Obj)} {σ : L2.St} {H : Hp} {s : Shared} {Q : VK} {W : WX} {k : Nat}
/-- a function, run where it is called -/
theorem run_fnG {f : Addr} {fd : PySem.FuncData} {ps : List Str} {sp : Sp} {us : List Value} {vs : List V} (F : FnG X.prog X.w X.K X.mg X.base k f fd ps sp) (hr : Room k X.A) (hgd : X.A.guards = some []) (tk : Takes X W) (hb : Binds X.K fd ps [])
    (I : Inv X pins σ H s) (r : Vals vs us) (q : sp vs H Q fun c d H2 => W c d σ H2) : wpAny (model X.prog X.w) X.A (call (.ref f) us) (EP X pins σ Q) X.xe s := by
  refine wpAny_call (codeAny_mono (F.run X.A X.stack s H ⟨us, []⟩ us vs Q _ hgd hr I.env0 ?_ r q) ?_)
  · have hl : (us ++ []).length = ps.length := by
      rw [List.append_nil, ← r.length]
      exact F.len _ _ _ _ q
    have := hb s us I.kIn hl
    rw [List.append_nil] at this
    exact this
  · intro rr s' hq
    cases rr with
    | error e => exact tk e s' (XE.of_call I (fun _ _ _ z => z) hq)
    | ok fl =>
      cases fl with
      | ret u => exact I.after hq
      | next => exact hq.elim
      | brk => exact hq.elim
      | cont => exact hq.elim
/-- a class, called -/
theorem run_makeG {C f : Addr} {fd : PySem.FuncData} {ps : List Str} {sp : Sp} {us : List Value} {vs : List V} (M : Mk X.K C f) (F : FnG X.prog X.w X.K X.mg X.base k f fd ps sp) (hr : Room (k + 1) X.A) (hgd : X.A.guards = some []) (tk : Takes X W) (hb : Binds X.K fd ps [])
    (I : Inv X pins σ H s) (r : Vals vs us) (h : ∀ x dx, H x = none → H dx = none → dx ≠ x → sp (.ref x :: vs) (upd (upd H dx (.own x)) x (.ins C dx [])) (fun v H2 => v = .non ∧ Lk (Q (.ref x)) H2) fun c d H2 => W c d σ H2) :
    wpAny (model X.prog X.w) X.A (call (.ref C) us) (EP X pins σ Q) X.xe s := by
  have hq := h (s.heap.objs.size + 1) s.heap.objs.size (I.hok.fresh (Nat.le_succ _)) (I.hok.fresh (Nat.le_refl _)) (Nat.ne_of_lt (Nat.lt_succ_self _))
  have I2 := Inv.made (C := C) I
  have r2 : Vals (V.ref (s.heap.objs.size + 1) :: vs) (Value.ref (s.heap.objs.size + 1) :: us) := .cons rfl r
  have hl : ((Value.ref (s.heap.objs.size + 1) :: us) ++ []).length = ps.length := by
    rw [List.append_nil, ← r2.length]
    exact F.len _ _ _ _ hq
  have hb2 := hb _ (Value.ref (s.heap.objs.size + 1) :: us) I2.kIn hl
  rw [List.append_nil] at hb2
  refine wpAny_call (make_map (f := f) I.kIn M.makes M.init (beq_iff_eq.mp M.fn) (codeAny_mono (F.run _ X.stack _ _ ⟨Value.ref (s.heap.objs.size + 1) :: us, []⟩ (Value.ref (s.heap.objs.size + 1) :: us) _ _ _ (under_guards hgd) (hr.make C us [])
    (I2.env0.make C us []) hb2 r2 hq) fun r s' hq' => ?_))
  cases r with
  | error e => exact tk e s' (XE.of_call I2 (fun _ _ _ z => z) hq')
  | ok fl =>
    cases fl with
    | ret u =>
      obtain ⟨v, H', I3, rv, ev, q3⟩ := I2.after hq'
      subst ev
      obtain ⟨H3, I4, q4⟩ := q3.run I3
      exact ⟨rv, ⟨V.ref (s.heap.objs.size + 1), H3, I4, rfl, q4⟩⟩
    | next => exact False.elim hq'
    | brk => exact False.elim hq'
    | cont => exact False.elim hq'
end
section
variable {T : Tab} {xc : XcT} {o : Orc} {W : WX} {k : Nat} {C : SC} {X : Cx}
/-! ### what is never come to -/
theorem s_dead {e : Expr} : PE X e (rdP X.K xc o W .dead) := ⟨fun pins s σ H Q I h => by
  obtain ⟨φ, μ, env, st, rs, re, h⟩ := h
  simp only [ev] at h
  exact h.elim⟩
theorem t_dead {e : Expr} : PT X e (rdT X.K xc o W .dead) := ⟨fun pins s σ H Q I h => by
  obtain ⟨φ, μ, env, st, rs, re, h⟩ := h
  unfold tst at h
  simp only [ev, R.bindv_no] at h
  exact h.elim⟩
theorem i_dead {e tg : Expr} : PI X tg e (rdI X.K xc o W .dead) := ⟨fun pins s σ H Q I h => by
  obtain ⟨φ, μ, env, st, rs, re, h⟩ := h
  unfold evi at h
  simp only [ev, R.bind_no] at h
  exact h.elim⟩
/-! ### new places -/
theorem new_place {K : PySem.W.Frag} {φ : Fz} {μ : List Addr} {H : Hp} {σ : L2.St} {s : Sto} {c : Cell} {ho : HO} {Q : V → Hp → Prop} (h : Fin K W (relP K) φ μ H σ (okv (.loc s.length) (s ++ [c])) Q) (rs : RelS K φ μ H s)
    (hc : ∀ p, H p = none → RelC K φ μ (upd H p ho) c p) : ∀ p, H p = none → Q (.ref p) (upd H p ho) := fun p hp => by
  refine h φ (μ ++ [p]) _ _ ((Le.new hp rs.here).trans Le.grow) (rs.laid hp (hc p hp)) ?_
  show RelD K φ (μ ++ [p]) (upd H p ho) (.loc s.length) (.ref p)
  exact mk_loc (by rw [← rs.len]; simp)
theorem s_dnw {m : Md} {e : Expr} (h : mtE T m C .dnw e = true) : PE X e (rdP X.K xc o W .dnw) := by
  simp only [mtE] at h
  split at h <;> first | cases h | skip
  refine PE.imp pe_dnewK fun σ H Q => ?_
  rintro ⟨φ, μ, env, s, rs, re, h⟩
  simp only [ev] at h
  exact new_place h rs fun p hp => ⟨[], upd_same, .nil⟩
/-- pairs, as tuples -/
theorem tups_rel {K : PySem.W.Frag} {φ : Fz} {μ : List Addr} {H : Hp} : ∀ {ds : List D} {vs : List V} {kvs : List (Ky × D)}, RelL K φ μ H ds vs → tupsOf ds = some kvs →
    ∃ (ps : List Addr) (ws : List (Key × V)), vs = ps.map V.ref ∧ Paired (fun p kv => SqT K H p [kV kv.1, kv.2]) ps ws ∧ RelM K φ μ H kvs ws
  | [], vs, kvs, r, h => by
    cases h
    rw [r.of_nil]
    exact ⟨[], [], rfl, .nil, .nil⟩
  | d :: ds, vs, kvs, r, h => by
    obtain ⟨v, vr, rfl, r1, r2⟩ := r.of_cons
    have two : ∃ kd x, d = .tup [kd, x] := by
      cases d <;> first | (simp [tupsOf] at h; done) | skip
      rename_i xs
      match xs, h with
      | [kd, x], _ => exact ⟨kd, x, rfl⟩
      | [], h => simp [tupsOf] at h
      | [_], h => simp [tupsOf] at h
      | _ :: _ :: _ :: _, h => simp [tupsOf] at h
    obtain ⟨kd, x, rfl⟩ := two
    simp only [tupsOf] at h
    split at h <;> first | (cases h; done) | skip
    rename_i ky l e1 e2
    cases h
    obtain ⟨ps, ws, rfl, g1, g2⟩ := tups_rel r2 e2
    obtain ⟨a, us, rfl, h1, h2⟩ := relD_tup r1
    obtain ⟨v1, v2, rfl, k1, k2⟩ := two_of h2
    rw [key_rel k1 e1] at h1
    exact ⟨a :: ps, (ky, v2) :: ws, rfl, .cons h1 g1, .cons k2 g2⟩
theorem boot_dictT : bootBuiltins "dict" = some (.type "dict") := by decide +kernel
theorem s_dct {m : Md} {a : E} {e : Expr} (G : Good T xc o W k C X) (ia : IhE T xc o W C X a) (h : mtE T m C (.dct a) e = true) : PE X e (rdP X.K xc o W (.dct a)) := by
  simp only [mtE] at h
  split at h <;> first | cases h | skip
  rename_i x p l pos
  obtain ⟨h1, h2, h3⟩ := and3 h
  obtain ⟨e1, g1, g2⟩ := blt_ok G h1
  subst e1
  refine PE.imp (pe_callTy (call_dictP G.calm) g1 g2 boot_dictT (pa1 (to_Q (ia l h2)) h3) (by decide +kernel) (by decide +kernel) (star_cons h3) rfl) fun σ H Q => ?_
  rintro ⟨φ, μ, env, s, rs, re, h⟩
  simp only [ev] at h
  refine seqq rs re h fun q s1 φ1 μ1 H1 v l1 rs1 re1 rq h1 => ?_
  obtain ⟨a, vs, rfl, hs, rl⟩ := rq
  by_cases c : q.1 = true
  · rw [if_pos c] at h1; exact h1.elim
  · rw [if_neg c] at h1
    cases z : tupsOf q.2 with
    | none => rw [z] at h1; exact h1.elim
    | some kvs =>
      rw [z] at h1
      obtain ⟨ps, ws, rfl, k1, k2⟩ := tups_rel rl z
      unfold SqA at hs
      rw [if_neg c] at hs
      exact ⟨a, ps, ws, rfl, hs, k1, new_place h1 rs1 fun p hp => ⟨_, upd_same, (RelM.merge k2 .nil).up (Le.new hp rs1.here)⟩⟩
/-- a display, so many times -/
theorem s_rep {m : Md} {es : Es} {b : E} {e : Expr} (ih : ∀ e, EsHas es e → IhE T xc o W C X e) (ib : IhE T xc o W C X b) (h : mtE T m C (.rep es b) e = true) : PE X e (rdP X.K xc o W (.rep es b)) := by
  simp only [mtE] at h
  split at h <;> first | cases h | skip
  rename_i ls lp r pos
  obtain ⟨h1, h2⟩ := and2 h
  refine PE.imp (pe_op op_rep (pe_lst (s_es ih h1)) (to_E (ib r h2))) fun σ H Q => ?_
  rintro ⟨φ, μ, env, s, rs, re, h⟩
  simp only [ev] at h
  refine ⟨φ, μ, env, s, rs, re, Fin.bind h fun ds s1 φ1 μ1 H1 vs l1 rs1 rl h1 => ?_⟩
  by_cases c0 : ds.length ≤ sizeMax
  case neg => rw [if_neg c0] at h1; exact h1.elim
  rw [if_pos c0] at h1
  have hl : vs.length ≤ sizeMax := by rw [← rl.length]; exact c0
  refine ⟨le_line hl, fun p hp => ?_⟩
  have lp := Le.new (K := X.K) (φ := φ1) (μ := μ1) (o := .lst vs) hp rs1.here
  obtain ⟨rsD, leD⟩ := (rs1.beside (o := .lst vs) hp).aside (a := p) false ⟨_, upd_same, fun _ z => nomatch z⟩ (fun b hb => rs1.here _ hb hp) (fun hm => rs1.here_mu hm hp)
  refine seqv rsD ((re.up l1).up (lp.trans leD)) (h1.up (lp.trans leD)) fun y s2 φ2 μ2 H2 v l2 rs2 re2 rd2 h2 => ?_
  cases y <;> first | exact h2.elim | skip
  rename_i k
  simp only at h2
  split at h2 <;> first | exact h2.elim | skip
  rename_i c
  cases relD_int rd2
  have hp2 : H2 p = some (.lst vs) := (l2.set (false, p) List.mem_cons_self).trans upd_same
  refine ⟨p, k, vs, rfl, rfl, hp2, c.1, c.2.1, by rw [← rl.length]; exact le_line c.2.2, new_fin h2 rs2 ?_⟩
  have rl2 := (rl.up (lp.trans leD)).up l2
  have : ∀ n : Nat, RelL X.K φ2 μ2 H2 (List.replicate n ds).flatten (List.replicate n vs).flatten := fun n => by
    induction n with
    | zero => exact .nil
    | succ n ih => rw [List.replicate_succ, List.replicate_succ, List.flatten_cons, List.flatten_cons]; exact rl2.append ih
  exact this _
/-- x in range(..) -/
theorem s_irg {m : Md} {a lo hi : E} {e : Expr} (G : Good T xc o W k C X) (ia : IhE T xc o W C X a) (il : IhE T xc o W C X lo) (ih : IhE T xc o W C X hi) (h : mtE T m C (.irg a lo hi) e = true) : PE X e (rdP X.K xc o W (.irg a lo hi)) ∧ PT X e (rdT X.K xc o W (.irg a lo hi)) := by
  simp only [mtE] at h
  split at h <;> first | cases h | skip
  rename_i l y py p q cp pos
  simp only [Bool.and_eq_true] at h
  obtain ⟨⟨⟨⟨⟨h1, h2⟩, h3⟩, h4⟩, h5⟩, h6⟩ := h
  obtain ⟨e1, g1, g2⟩ := blt_ok G h1
  subst e1
  have pr := pe_callTy (p := py) (pos := cp) cr_range2 g1 g2 PyProof.Rows.boot_range (pa2 (to_E (il p h3)) (to_E (ih q h4)) h5 h6) (by decide +kernel) (by decide +kernel) (star_cons h5) (noStars_back (es := [q]) (by unfold noStars; simp [h6]))
  have core : ∀ {σ : L2.St} {H : Hp} {φ : Fz} {μ : List Addr} {env : Env} {s : Sto} {γ δ : Type} {rel : Rl γ δ} {g : Bool → Sto → R γ} {Q : δ → Hp → Prop} {Q1 : V → Hp → Prop}, RelS X.K φ μ H s → RelE xc X.K φ μ H env σ →
      Fin X.K W rel φ μ H σ ((ev o a env s).bindv fun x s1 => (ev o lo env s1).bindv fun y s2 => (ev o hi env s2).bindv fun z s3 => (R.ofO (inRg x y z) s3).bind g) Q →
      (∀ t s' φ' μ' H', RelS X.K φ' μ' H' s' → Fin X.K W rel φ' μ' H' σ (g t s') Q → Q1 (.bl t) H') → tOp (fun x y H Q => ∃ i a lo hi, x = V.int i ∧ y = V.ref a ∧ H a = some (.rng lo hi) ∧ Q (.bl (decide (lo ≤ i ∧ i < hi))) H) (rdE X.K xc o W a)
        (tCB (fun vs H Q => ∃ i j, vs = [V.int i, V.int j] ∧ ∀ p, H p = none → Q (.ref p) (upd H p (.rng i j))) (tCons (rdE X.K xc o W lo) (tCons (rdE X.K xc o W hi) tNil))) σ H Q1 := fun rs re h fin => by
    refine seqv rs re h fun x s1 φ1 μ1 H1 v l1 rs1 re1 rd1 h1 => seqv rs1 re1 h1 fun y s2 φ2 μ2 H2 u l2 rs2 re2 rd2 h2 => seqv rs2 re2 h2 fun z s3 φ3 μ3 H3 w l3 rs3 re3 rd3 h3 => ?_
    cases qq : inRg x y z with
    | none => rw [qq] at h3; exact h3.elim
    | some b =>
      rw [qq] at h3
      unfold inRg at qq
      split at qq <;> first | (cases qq; done) | skip
      rename_i i l0 h0
      cases qq
      cases relD_int ((rd1.up l2).up l3)
      cases relD_int (rd2.up l3)
      cases relD_int rd3
      refine ⟨l0, h0, rfl, fun r hr => ⟨i, r, l0, h0, rfl, rfl, upd_same, ?_⟩⟩
      exact fin _ s3 φ3 μ3 _ (rs3.beside hr) (h3.up (Le.new hr rs3.here))
  have hb : behindInMarks .In (.Call (.Name "range" py) [p, q] [] cp) = false := rfl
  constructor
  · refine PE.imp (pe_cmpR op_in_rng (to_E (ia l h2)) pr hb) fun σ H Q => ?_
    rintro ⟨φ, μ, env, s, rs, re, h⟩
    simp only [ev] at h
    exact core (g := fun t s3 => okv (.bl t) s3) rs re h fun t s' φ' μ' H' rs' h' => fin_val h' rs' mk_bl
  · refine PT.imp (pt_cmpR op_in_rng (to_E (ia l h2)) pr hb) fun σ H Q => ?_
    rintro ⟨φ, μ, env, s, rs, re, h⟩
    have e2 : tst o (.irg a lo hi) env s = (ev o a env s).bindv fun x s1 => (ev o lo env s1).bindv fun y s2 => (ev o hi env s2).bindv fun z s3 => (R.ofO (inRg x y z) s3).bind fun b s4 => .ok b s4 := by
      unfold tst
      simp only [ev, R.bindv]
      cases (ev o a env s).bind lay with
      | no => rfl
      | ex _ _ _ => rfl
      | ok x s1 =>
        simp only [Mi.R.bind_ok]
        cases (ev o lo env s1).bind lay with
        | no => rfl
        | ex _ _ _ => rfl
        | ok y s2 =>
          simp only [Mi.R.bind_ok]
          cases (ev o hi env s2).bind lay with
          | no => rfl
          | ex _ _ _ => rfl
          | ok z s3 =>
            simp only [Mi.R.bind_ok]
            cases inRg x y z with
            | none => rfl
            | some b => rfl
    rw [e2] at h
    exact core (g := fun t s3 => .ok t s3) rs re h fun t s' φ' μ' H' rs' h' => ⟨t, rfl, h'.here rs' rfl⟩
/-! ### methods of dicts -/
theorem m2_of {ob l r : Expr} {n : Str} {apos pos : Pos} (h1 : notCall0 ob = true) (h2 : (apos.endLine == pos.line) = true) (h3 : notStar l = true) (h4 : notStar r = true) : M2 X ob n apos l r pos :=
  ⟨base_plain h1, few_args (ls := [l, r]) (by unfold noStars; simp [h3, h4]) (show 2 < 29 by decide), h2, by rw [star_cons h3, star_cons h4]; rfl⟩
theorem and8 {a b c d e f g h : Bool} (z : (a && b && c && d && e && f && g && h) = true) : a = true ∧ b = true ∧ c = true ∧ d = true ∧ e = true ∧ f = true ∧ g = true ∧ h = true := by
  simp only [Bool.and_eq_true] at z
  exact ⟨z.1.1.1.1.1.1.1, z.1.1.1.1.1.1.2, z.1.1.1.1.1.2, z.1.1.1.1.2, z.1.1.1.2, z.1.1.2, z.1.2, z.2⟩
theorem isD_rel {K : PySem.W.Frag} {φ : Fz} {μ : List Addr} {H : Hp} {s : Sto} {d : D} {v : V} {kvs : List (Ky × D)} (rs : RelS K φ μ H s) (rd : RelD K φ μ H d v) (h : dicOf d s = some kvs) : ∃ a, v = .ref a ∧ IsD H a := by
  obtain ⟨a, ws, e, h1, _⟩ := dic_rel rs rd h
  exact ⟨a, e, .inl ⟨ws, h1⟩⟩
theorem s_dg2 {m : Md} {a b c : E} {e : Expr} (G : Good T xc o W k C X) (ia : IhE T xc o W C X a) (ib : IhE T xc o W C X b) (ic : IhE T xc o W C X c) (h : mtE T m C (.dg2 a b c) e = true) : PE X e (rdP X.K xc o W (.dg2 a b c)) := by
  simp only [mtE] at h
  split at h <;> first | cases h | skip
  rename_i ob name apos l r pos
  obtain ⟨h1, h2, h3, h4, h5, h6, h7, h8⟩ := and8 h
  have e1 := of_decide_eq_true h1
  subst e1
  refine PE.imp (pe_dget2 (by have := G.room.un; omega) (to_E (ia ob h4)) (to_E (ib l h5)) (to_E (ic r h6)) (m2_of h3 h2 h7 h8)) fun σ H Q => ?_
  rintro ⟨φ, μ, env, s, rs, re, h⟩
  simp only [ev] at h
  refine seqv rs re h fun x s1 φ1 μ1 H1 v l1 rs1 re1 rd1 h1 => ?_
  cases z : dicOf x s1 with
  | none => rw [z] at h1; exact h1.elim
  | some kvs =>
    rw [z] at h1
    obtain ⟨p, rfl, hd⟩ := isD_rel rs1 rd1 z
    refine ⟨p, rfl, hd, seqv rs1 re1 h1 fun y s2 φ2 μ2 H2 u l2 rs2 re2 rd2 h2 => seqv rs2 re2 h2 fun w s3 φ3 μ3 H3 t l3 rs3 re3 rd3 h3 => ?_⟩
    split at h3 <;> first | exact h3.elim | skip
    rename_i kvs2 ky z1 z2
    obtain ⟨p', ws, ep, g1, g2⟩ := dic_rel rs3 ((rd1.up l2).up l3) z1
    cases ep
    refine ⟨valV ws ky, .inl ⟨ws, ky, g1, key_rel (rd2.up l3) z2, rfl⟩, ?_⟩
    cases z3 : kGet kvs2 ky with
    | none => rw [g2.lacks z3]; rw [z3] at h3; exact fin_val h3 rs3 rd3
    | some d =>
      obtain ⟨w', w1, w2⟩ := g2.get z3
      rw [w1]
      rw [z3] at h3
      exact fin_val h3 rs3 w2
theorem s_dsd {m : Md} {a b c : E} {e : Expr} (ia : IhE T xc o W C X a) (ib : IhE T xc o W C X b) (ic : IhE T xc o W C X c) (h : mtE T m C (.dsd a b c) e = true) : PE X e (rdP X.K xc o W (.dsd a b c)) := by
  simp only [mtE] at h
  split at h <;> first | cases h | skip
  rename_i ob name apos l r pos
  obtain ⟨h1, h2, h3, h4, h5, h6, h7, h8⟩ := and8 h
  have e1 := of_decide_eq_true h1
  subst e1
  refine PE.imp (pe_dsetd (to_E (ia ob h4)) (to_E (ib l h5)) (to_E (ic r h6)) (m2_of h3 h2 h7 h8)) fun σ H Q => ?_
  rintro ⟨φ, μ, env, s, rs, re, h⟩
  simp only [ev] at h
  refine seqv rs re h fun x s1 φ1 μ1 H1 v l1 rs1 re1 rd1 h1 => ?_
  cases z : dicOf x s1 with
  | none => rw [z] at h1; exact h1.elim
  | some kvs =>
    rw [z] at h1
    obtain ⟨p, rfl, hd⟩ := isD_rel rs1 rd1 z
    refine ⟨p, rfl, hd, seqv rs1 re1 h1 fun y s2 φ2 μ2 H2 u l2 rs2 re2 rd2 h2 => seqv rs2 re2 h2 fun w s3 φ3 μ3 H3 t l3 rs3 re3 rd3 h3 => ?_⟩
    cases z1 : setd x y w s3 with
    | none => rw [z1] at h3; exact h3.elim
    | some r =>
      rw [z1] at h3
      unfold setd at z1
      split at z1 <;> first | (cases z1; done) | skip
      rename_i n ky z2
      split at z1 <;> first | (cases z1; done) | skip
      rename_i kvs2 z3
      obtain ⟨p', ep, hm⟩ := relD_loc ((rd1.up l2).up l3)
      cases ep
      obtain ⟨ws, g1, g2⟩ := rs3.cell n _ p z3 hm
      have ek := key_rel (rd2.up l3) z2
      split at z1 <;> first | (cases z1; done) | skip
      rename_i c0
      refine ⟨ws, ky, g1, ek, by rw [← g2.length]; exact Nat.lt_of_lt_of_le c0 (by decide), fun v0 hv => ?_, fun hv => ?_⟩
      · cases z4 : kGet kvs2 ky with
        | none => rw [g2.lacks z4] at hv; cases hv
        | some d0 =>
          rw [z4] at z1
          cases z1
          obtain ⟨w', w1, w2⟩ := g2.get z4
          rw [hv] at w1
          cases w1
          exact fin_val h3 rs3 w2
      · cases z4 : kGet kvs2 ky with
        | some d0 =>
          obtain ⟨w', w1, w2⟩ := g2.get z4
          rw [hv] at w1
          cases w1
        | none =>
          rw [z4] at z1
          cases z1
          have l := Le.write (o := .dK (putK ws ky t)) rs3 hm g1 (fun _ z => (nomatch z)) (fun _ _ z => (nomatch z))
          exact h3 _ _ _ _ l (RelS.write rs3 hm g1 (fun _ z => (nomatch z)) (fun _ _ z => (nomatch z)) ⟨_, upd_same, (g2.put ky rd3).up l⟩) (show RelD X.K φ3 μ3 _ w t from rd3.up l)
/-! ### instances -/
theorem ClsAt.one {K : PySem.W.Frag} {c : Str} {A B : Addr} (h : ClsAt K c A) (g : ClsAt K c B) : A = B := by
  unfold ClsAt at h g
  rw [h] at g
  cases g
  rfl
theorem s_fld {m : Md} {a : E} {c f : Str} {e : Expr} (G : Good T xc o W k C X) (ia : IhE T xc o W C X a) (h : mtE T m C (.fld a c f) e = true) : PE X e (rdP X.K xc o W (.fld a c f)) := by
  simp only [mtE] at h
  split at h <;> first | cases h | skip
  rename_i ob n pos
  obtain ⟨h1, h2, h3, h4⟩ := and4 h
  have e1 := of_decide_eq_true h1
  subst e1
  obtain ⟨C0, c1, c2, c3⟩ := G.fld c n (of_decide_eq_true h2)
  refine PE.imp (pe_fld (to_E (ia ob h4)) (base_plain h3)) fun σ H Q => ?_
  rintro ⟨φ, μ, env, s, rs, re, h⟩
  simp only [ev] at h
  refine seqv rs re h fun x s1 φ1 μ1 H1 v l1 rs1 re1 rd1 h1 => ?_
  cases z : insOf x s1 with
  | none => rw [z] at h1; exact h1.elim
  | some q =>
    rw [z] at h1
    obtain ⟨p, C1, dx, ws, rfl, g1, g2, g3⟩ := ins_rel rs1 rd1 z
    by_cases hc : q.1 = c
    · simp only [hc, if_true] at h1
      rw [hc] at g2
      have ec := g2.one c1
      subst ec
      cases z2 : q.2.lookup n with
      | none => rw [z2] at h1; exact h1.elim
      | some d =>
        rw [z2] at h1
        obtain ⟨w, w1, w2⟩ := g3.look z2
        exact ⟨p, C1, dx, ws, w, rfl, g1, c2, c3, w1, fin_val h1 rs1 w2⟩
    · simp only [hc, if_false] at h1
      exact h1.elim
theorem s_mk {m : Md} {f : Nat} {es : Es} {e : Expr} (G : Good T xc o W k C X) (ih : ∀ e, EsHas es e → IhE T xc o W C X e) (h : mtE T m C (.mk f es) e = true) : PE X e (rdP X.K xc o W (.mk f es)) := by
  simp only [mtE] at h
  split at h <;> first | cases h | skip
  rename_i x p l ls pos
  obtain ⟨h1, h2, h3, h4⟩ := and4 h
  obtain ⟨C0, fa, fd, ps, spI, g1, g2, g3, g4, g5⟩ := G.mkr f x (of_decide_eq_true h1)
  have hgl : Gl X x := by
    show X.env.scope.names.lookup x = some .globalImplicit
    rw [G.sc]
    exact of_decide_eq_true h2
  have hx := (plain_dbg h3).1
  have hs := mtEs_stars h4
  obtain ⟨hs1, hs2⟩ := and2 (show (notStar l && noStars ls) = true from hs)
  have pa := s_es ih h4
  constructor
  rintro pins s σ H Q I ⟨φ, μ, env, st, rs, re, h⟩
  simp only [ev] at h
  have rd : rdA X.K xc o W es σ H fun vs H1 => spF X.K o f vs H1 Q fun c d H2 => W c d σ H2 :=
    ⟨φ, μ, env, st, rs, re, Fin.bind h fun ds s1 φ1 μ1 H1 vs l1 rs1 rl h1 => ⟨φ1, μ1, s1, ds, rs1, rl, fin_fn h1⟩⟩
  refine wpAny_Call_Name_kw (ld_glob I hgl g1 ?_ hx)
  refine PySem.W.callWith_K (h₀ := X.base) I.ok.mod.kin g2.kp (thn (pa.run pos pins s σ H _ I rd) ?_) (star_cons hs1) (noStars_back hs2)
  rintro us s1 ⟨vs, H1, I1, r, q⟩
  exact ⟨I1.kIn, run_makeG g2 g4 G.room G.guards G.takes g3 I1 r (g5 vs H1 Q _ q)⟩
theorem s_mt {m : Md} {f : Nat} {c n : Str} {a : E} {es : Es} {e : Expr} (G : Good T xc o W k C X) (ia : IhE T xc o W C X a) (ih : ∀ e, EsHas es e → IhE T xc o W C X e) (h : mtE T m C (.mt f c n a es) e = true) : PE X e (rdP X.K xc o W (.mt f c n a es)) := by
  simp only [mtE] at h
  split at h <;> first | cases h | skip
  rename_i ob name apos l ls pos
  simp only [Bool.and_eq_true] at h
  obtain ⟨⟨⟨⟨⟨⟨h1, h2⟩, h3⟩, h4⟩, h5⟩, h6⟩, h7⟩ := h
  have e1 := of_decide_eq_true h1
  subst e1
  have hs := mtEs_stars h5
  obtain ⟨hs1, hs2⟩ := and2 (show (notStar l && noStars ls) = true from hs)
  obtain ⟨C0, fa, fd, ps, c1, c2, c3, c4, c5⟩ := G.mth f c name (of_decide_eq_true h2)
  have po := to_E (ia ob h4)
  have pa := s_es ih h5
  constructor
  rintro pins s σ H Q I ⟨φ, μ, env, st, rs, re, h⟩
  simp only [ev] at h
  have rd : rdE X.K xc o W a σ H fun v H1 => ∃ p dx ws, v = .ref p ∧ H1 p = some (.ins C0 dx ws) ∧ ws.lookup name = none ∧ rdA X.K xc o W es σ H1 fun vs H2 => spF X.K o f (v :: vs) H2 Q fun c d H3 => W c d σ H3 := by
    refine seqv rs re h fun x s1 φ1 μ1 H1 v l1 rs1 re1 rd1 h1 => ?_
    cases z : insOf x s1 with
    | none => rw [z] at h1; exact h1.elim
    | some q =>
      rw [z] at h1
      obtain ⟨p, C1, dx, ws, rfl, g1, g2, g3⟩ := ins_rel rs1 rd1 z
      by_cases hc : q.1 = c ∧ q.2.lookup name = none
      · simp only [hc, and_self, if_true] at h1
        rw [hc.1] at g2
        have ec := g2.one c1
        subst ec
        exact ⟨p, dx, ws, rfl, g1, g3.lookn hc.2, φ1, μ1, env, s1, rs1, re1, Fin.bind h1 fun ds s2 φ2 μ2 H2 vs l2 rs2 rl h2 => ⟨φ2, μ2, s2, x :: ds, rs2, .cons (rd1.up l2) rl, fin_fn h2⟩⟩
      · simp only [hc, if_false] at h1
        exact h1.elim
  refine PySem.W.methodCall_KW (thn (po.run pins s σ H _ I rd) fun u s1 ⟨x, H1, I1, rx, p, dx, ws, ex, ea, hl, q⟩ => ?_) (meth_tree h3 hs (of_decide_eq_true h7) h6)
  subst ex
  obtain rfl : u = Value.ref p := rx
  refine getmeth_ok I1 ea c2 c3 hl ?_
  refine PySem.W.callWith_K (first := [.ref p]) (h₀ := X.base) I.ok.mod.kin c3.kp (thn (pa.run pos pins s1 σ H1 _ I1 q) fun us s2 ⟨vs, H2, I2, r, q2⟩ => ⟨I2.kIn, ?_⟩) (star_cons hs1) (noStars_back hs2)
  exact run_fnG (us := .ref p :: us) (vs := .ref p :: vs) c5 (G.room.mono (by omega)) G.guards G.takes c4 I2 (.cons rfl r) q2
/-! ### x in o, by o's own method -/
theorem contains_fn {M : Model} {A : Around} {E : Value → Shared → Prop} {s : Shared} {K : PySem.W.Frag} {x C f : Addr} {u : Value} {ox : Obj} {od : Option Obj} {Q : Bool → Shared → Prop} (kin : K.In s.heap) (I : PySem.W.InstAt s.heap x ox C od)
    (hs : PySem.W.findIn K (.ref C) "__contains__" = some (some (.ref f))) (hf : PySem.W.typeIn K (.ref f) = some (.type "function")) (h : wpAny M A (call (.ref f) [.ref x, u]) (fun r s' => wpAny M A (truthy r) Q E s') E s) :
    wpAny M A (contains (.ref x) u) Q E s := by
  unfold contains
  refine wpAny_holding ?_
  rw [stdlibNamesSay?_ref]
  refine wpAny_bind (wpAny_bind (I.type.here ((PySem.W.looks_findIn kin hs).here ?_)))
  show wpAny M A (if (some (Value.ref f) == some Value.none) = true then _ else _) Q E s
  rw [if_neg (by simp)]
  refine wpAny_bind ?_
  unfold callSpecialUnlessNone?
  refine wpAny_bind (wpAny_bind (I.type.here ((PySem.W.looks_findIn kin hs).here ?_)))
  refine wpAny_holding (wpAny_bind ((PySem.W.bind_fn kin _ hf).here ?_))
  show wpAny M A (if (Value.ref f == Value.none) = true then _ else _) _ E s
  rw [if_neg (by simp)]
  exact wpAny_bind (wpAny_mono h (fun _ _ z => wpAny_pure z) fun _ _ z => z)
/-- a function, run where it is called, no error leaving -/
theorem run_fnN {f : Addr} {fd : PySem.FuncData} {ps : List Str} {sp : Sp} {pins : List (Addr × Obj)} {σ : L2.St} {H : Hp} {s : Shared} {Q : VK} {us : List Value} {vs : List V} {j : Nat} (F : FnG X.prog X.w X.K X.mg X.base j f fd ps sp) (hr : Room j X.A) (hgd : X.A.guards = some []) (hb : Binds X.K fd ps [])
    (I : Inv X pins σ H s) (r : Vals vs us) (q : sp vs H Q fun _ _ _ => False) : wpAny (model X.prog X.w) X.A (call (.ref f) us) (EP X pins σ Q) X.xe s := by
  refine wpAny_call (codeAny_mono (F.run X.A X.stack s H ⟨us, []⟩ us vs Q _ hgd hr I.env0 ?_ r q) ?_)
  · have hl : (us ++ []).length = ps.length := by
      rw [List.append_nil, ← r.length]
      exact F.len _ _ _ _ q
    have := hb s us I.kIn hl
    rw [List.append_nil] at this
    exact this
  · intro rr s' hq
    cases rr with
    | error e =>
      obtain ⟨_, _, _, _, _, _, _, _, _, _, _, _, no⟩ := hq
      exact no.elim
    | ok fl =>
      cases fl with
      | ret u => exact I.after hq
      | next => exact hq.elim
      | brk => exact hq.elim
      | cont => exact hq.elim
def rDnc (K : PySem.W.Frag) (o : Orc) (f : Nat) (C0 : Addr) (neg : Bool) : R2 := fun x y H Q => ∃ p dx ws, y = .ref p ∧ H p = some (.ins C0 dx ws) ∧ spF K o f [y, x] H (fun v H2 => ∃ b, v = .bl b ∧ Q (.bl (if neg then !b else b)) H2) fun _ _ _ => False
theorem op_dnc {f : Nat} {fa C0 : Addr} {fd : PySem.FuncData} {ps : List Str} {j : Nat} (c2 : Cls X.K C0) (c3 : Meth X.K C0 "__contains__" fa) (c4 : Binds X.K fd ps []) (c5 : FnG X.prog X.w X.K X.mg X.base j fa fd ps (spF X.K o f)) (hr : Room j X.A) (hgd : X.A.guards = some []) (neg : Bool) :
    OpR X (compareOp (if neg then .NotIn else .In)) (rDnc X.K o f C0 neg) := by
  intro pins s σ H x y v u Q I rx ry q
  obtain ⟨p, dx, ws, rfl, ea, q⟩ := q
  cases ry
  obtain ⟨mA, O, _, _, _, _⟩ := ins_get I.hok ea
  obtain ⟨od, J, _⟩ := O.look
  have main : wpAny (model X.prog X.w) X.A (contains (.ref p) v) (fun b s' => ∃ H2, Inv X pins σ H2 s' ∧ Q (.bl (if neg then !b else b)) H2) X.xe s := by
    refine contains_fn I.kIn J c3.at_ (beq_iff_eq.mp c3.fn) (wpAny_mono (run_fnN (us := [.ref p, v]) (vs := [.ref p, x]) c5 hr hgd c4 I (.cons rfl (.cons rx .nil)) q) (fun r s' hq => ?_) fun _ _ z => z)
    obtain ⟨w, H2, I2, rw', b, rfl, q2⟩ := hq
    cases rw'
    exact wpAny_truthy_bool ⟨H2, I2, q2⟩
  cases neg with
  | false =>
    show wpAny _ _ (do return Value.bool (← contains (.ref p) v)) _ _ _
    exact wpAny_bind (wpAny_mono main (fun b s' ⟨H2, I2, q2⟩ => wpAny_pure ⟨.bl b, H2, I2, rfl, q2⟩) fun _ _ z => z)
  | true =>
    show wpAny _ _ (do return Value.bool (!(← contains (.ref p) v))) _ _ _
    exact wpAny_bind (wpAny_mono main (fun b s' ⟨H2, I2, q2⟩ => wpAny_pure ⟨.bl (!b), H2, I2, rfl, q2⟩) fun _ _ z => z)
theorem s_dnc {m : Md} {f : Nat} {c : Str} {neg : Bool} {a b : E} {e : Expr} (G : Good T xc o W k C X) (ia : IhE T xc o W C X a) (ib : IhE T xc o W C X b) (h : mtE T m C (.dnc f c neg a b) e = true) :
    PE X e (rdP X.K xc o W (.dnc f c neg a b)) ∧ PT X e (rdT X.K xc o W (.dnc f c neg a b)) := by
  simp only [mtE] at h
  split at h <;> first | cases h | skip
  rename_i l p r pos
  simp only [Bool.and_eq_true] at h
  obtain ⟨⟨⟨⟨h1, h2⟩, h3⟩, h4⟩, h5⟩ := h
  have ep : p = (if neg then CmpOp.NotIn else .In) := by
    cases neg <;> cases p <;> first | rfl | (cases h1; done)
  subst ep
  obtain ⟨C0, fa, fd, ps, c1, c2, c3, c4, c5⟩ := G.mth f c _ (of_decide_eq_true h2)
  have opr := op_dnc (X := X) c2 c3 c4 c5 (G.room.mono (by omega)) G.guards neg
  have hb : behindInMarks (if neg then CmpOp.NotIn else .In) r = false := by
    cases neg <;> (cases r <;> first | rfl | (cases h5; done))
  have core : ∀ {σ : L2.St} {H : Hp} {φ : Fz} {μ : List Addr} {env : Env} {s : Sto} {γ δ : Type} {rel : Rl γ δ} {g : Bool → Sto → R γ} {Q : δ → Hp → Prop} {Q1 : V → Hp → Prop}, RelS X.K φ μ H s → RelE xc X.K φ μ H env σ →
      Fin X.K W rel φ μ H σ ((ev o a env s).bindv fun x s1 => (ev o b env s1).bindv fun y s2 => match insOf y s2 with
        | some q => if q.1 = c then (o f [y, x] s2).nox.bind fun r s3 => (match r with
          | .bl t => g (if neg then !t else t) s3
          | _ => .no) else .no
        | none => .no) Q →
      (∀ t s' φ' μ' H', RelS X.K φ' μ' H' s' → Fin X.K W rel φ' μ' H' σ (g t s') Q → Q1 (.bl t) H') → tOp (rDnc X.K o f C0 neg) (rdE X.K xc o W a) (rdE X.K xc o W b) σ H Q1 := fun rs re h fin => by
    refine seqv rs re h fun x s1 φ1 μ1 H1 v l1 rs1 re1 rd1 h1 => seqv rs1 re1 h1 fun y s2 φ2 μ2 H2 u l2 rs2 re2 rd2 h2 => ?_
    cases z : insOf y s2 with
    | none => rw [z] at h2; exact h2.elim
    | some q =>
      rw [z] at h2
      obtain ⟨p, C1, dx, ws, rfl, g1, g2, g3⟩ := ins_rel rs2 rd2 z
      by_cases hc : q.1 = c
      · simp only [hc, if_true] at h2
        rw [hc] at g2
        have ec := g2.one c1
        subst ec
        refine ⟨p, dx, ws, rfl, g1, φ2, μ2, s2, [y, x], rs2, .cons rd2 (.cons (rd1.up l2) .nil), ?_⟩
        revert h2
        generalize o f [y, x] s2 = r
        intro h2
        cases r with
        | no => exact h2.elim
        | ex _ _ _ => exact h2.elim
        | ok d s3 =>
          intro φ' μ' H' w l' rs' rd'
          simp only [R.nox_ok, Mi.R.bind_ok] at h2
          cases d <;> first | exact h2.elim | skip
          rename_i t
          exact ⟨t, relD_bl rd', fin _ s3 φ' μ' H' rs' (h2.up l')⟩
      · simp only [hc, if_false] at h2
        exact h2.elim
  constructor
  · refine PE.imp (pe_cmpR opr (to_E (ia l h3)) (to_E (ib r h4)) hb) fun σ H Q => ?_
    rintro ⟨φ, μ, env, s, rs, re, h⟩
    simp only [ev] at h
    exact core (g := fun t s3 => okv (.bl t) s3) rs re h fun t s' φ' μ' H' rs' h' => fin_val h' rs' mk_bl
  · refine PT.imp (pt_cmpR opr (to_E (ia l h3)) (to_E (ib r h4)) hb) fun σ H Q => ?_
    rintro ⟨φ, μ, env, s, rs, re, h⟩
    have e2 : tst o (.dnc f c neg a b) env s = (ev o a env s).bindv fun x s1 => (ev o b env s1).bindv fun y s2 => match insOf y s2 with
        | some q => if q.1 = c then (o f [y, x] s2).nox.bind fun r s3 => (match r with
          | .bl t => .ok (if neg then !t else t) s3
          | _ => .no) else .no
        | none => .no := by
      unfold tst
      simp only [ev, R.bindv]
      cases (ev o a env s).bind lay with
      | no => rfl
      | ex _ _ _ => rfl
      | ok x s1 =>
        simp only [Mi.R.bind_ok]
        cases (ev o b env s1).bind lay with
        | no => rfl
        | ex _ _ _ => rfl
        | ok y s2 =>
          simp only [Mi.R.bind_ok]
          cases insOf y s2 with
          | none => rfl
          | some q =>
            simp only []
            split
            · cases o f [y, x] s2 with
              | no => rfl
              | ex _ _ _ => rfl
              | ok d s3 => cases d <;> rfl
            · rfl
    rw [e2] at h
    exact core (g := fun t s3 => .ok t s3) rs re h fun t s' φ' μ' H' rs' h' => ⟨t, rfl, h'.here rs' rfl⟩
theorem texts_at {ys : List Str} {us : List Value} (r : Vals (ys.map V.str) us) {i : Nat} {v : Value} (h : us[i]? = some v) : ∃ x t, ys[i]? = some x ∧ v = Value.str x t := by
  have hi := (List.getElem?_eq_some_iff.mp h).1
  have hl := r.length
  rw [List.length_map] at hl
  obtain ⟨u, e1, e2⟩ := r.get (i := i) (x := V.str ys[i]) (by rw [List.getElem?_map, List.getElem?_eq_getElem (by omega)]; rfl)
  rw [h] at e1
  cases e1
  obtain ⟨t, e3⟩ := e2
  exact ⟨_, t, List.getElem?_eq_getElem (by omega), e3⟩
theorem s_lset {m : Md} {a : E} {e : Expr} (G : Good T xc o W k C X) (ia : IhE T xc o W C X a) (h : mtE T m C (.lset a) e = true) : PE X e (rdP X.K xc o W (.lset a)) := by
  simp only [mtE] at h
  split at h <;> first | cases h | skip
  rename_i x p y p2 l pos2 pos
  obtain ⟨h1, h2, h3, h4⟩ := and4 h
  obtain ⟨e1, g1, g2⟩ := blt_ok G h1
  obtain ⟨e2, g3, g4⟩ := blt_ok G h2
  subst e1 e2
  have pq := to_Q (ia l h3)
  constructor
  rintro pins s σ H Q I ⟨φ, μ, env, st, rs, re, h⟩
  simp only [ev] at h
  have rd : rdQ X.K xc o W a σ H fun v H1 => ∃ q ys, v = .ref q ∧ SqT X.K H1 q (ys.map V.str) ∧ ys.length < 4000 ∧ Q (.int (dedS ys).length) H1 := by
    refine seqq rs re h fun q s1 φ1 μ1 H1 v l1 rs1 re1 rq h1 => ?_
    obtain ⟨b, vs, rfl, hs, rl⟩ := rq
    cases z : strsOf q.2 with
    | none => rw [z] at h1; exact h1.elim
    | some ys =>
      rw [z] at h1
      simp only at h1
      split at h1 <;> first | exact h1.elim | skip
      rename_i c
      have e := strs_rel rl z
      subst e
      unfold SqA at hs
      rw [if_pos c.1] at hs
      exact ⟨b, ys, rfl, hs, c.2, fin_val h1 rs1 mk_int⟩
  refine Call_ (ld_blt I g1 g2 boot_len ?_)
  refine PyProof.Rows.callWith_builtin1 (PyProof.Rows.args_cons ?_ rfl) rfl rfl
  refine Call_ (ld_blt I g3 g4 boot_set ?_)
  refine PyProof.Rows.callWith_type1 (PyProof.Rows.args_cons (thn (pq.run pins s σ H _ I rd) fun v s1 ⟨x, H1, I1, r1, q1⟩ => PyProof.Rows.args_nil ?_) (star_cons h4)) (star_cons h4) rfl
  obtain ⟨b, ys, rfl, hs, hl, q1⟩ := q1
  cases r1
  obtain ⟨its, r, tup, hz⟩ := I1.tuple hs
  have hn := r.length
  rw [List.length_map] at hn
  refine set_tup (xs := ys) (I1.ok.hd G.calm) tup (fun i v e => texts_at r (by simpa using e)) (by simpa using hn) (by unfold scanBound; omega) fun g tk inS kept => PyProof.Rows.args_nil ?_
  obtain ⟨ob, es, ep, t, ho, hex, hd, _, _, _, hf, hc⟩ := inS
  have I2 : Inv X pins σ H1 { s1 with heap := g, toks := tk } := I1.kept fun c u e => kept c u (Heap.lt_size e) e
  have small : (dedT ys).length ≤ ys.length := by
    have gen : ∀ (xs l : List Str), (xs.foldl addT l).length ≤ l.length + xs.length := by
      intro xs
      induction xs with
      | nil => intro l; simp
      | cons x xs ih => intro l; have := ih (addT l x); have := addT_len l x; simp only [List.foldl_cons, List.length_cons]; omega
    have := gen ys []
    simpa [dedT] using this
  exact call_len_set ho hex hd hf (by rw [hc]; omega) ⟨.int (dedS ys).length, H1, I2.tok _, ⟨_, by rw [hc]; rfl⟩, q1⟩
end
end Mi

/-! # A lambda that tells a part of a tuple, called -/
namespace Mi
open PySem PySem.Spec PyProof.Rows L2
theorem key_call {P : Program} {w : World} {A : Around} {s : Shared} {f c' t : Addr} {name qual x : Str} {params : Arguments} {scope : Scope} {cl : List (Str × Addr)} {pm ctv : Value} {its : Array Value} {i j : Nat} {k : Int} {tk : Tok} {p1 p2 p3 : Pos}
    (hroom : A.depth < recursionLimit) (lim : s.heap.NoLimit)
    (hf : s.heap.get? f = some (PySem.W.kla_obj name qual params (.Subscript (.Name x p1) (.Constant (.int i) j p2) p3) scope cl pm c' ctv)) (hcd : s.heap.CodeRec (.ref c') qual)
    (hco : scope.isCoroutine = false) (hgen : scope.isGenerator = false) (hk : scope.kind = .function) (hnc : ∀ y ∈ scope.names, y.2 ≠ .cell) (hx : scope.names.lookup x = some .local) (hdb : (x == ("__debug__" : Str)) = false)
    (hbind : ∀ v : Value, bindArgs (PySem.W.kla_fn name qual params (.Subscript (.Name x p1) (.Constant (.int i) j p2) p3) scope cl pm (.ref c') ctv) ⟨[v], []⟩ = pure [(x, v)])
    (ht : IsTup s.heap t its) (hi : its[i]? = some (.int k tk)) (hi2 : i < 1000) :
    wpAny (model P w) A (call (.ref f) [.ref t]) (PySem.W.KeyPure (.int k) s) (fun _ _ => False) s := by
  refine wpAny_call ?_
  refine PySem.W.kla_callFunE hroom hf rfl hco hgen rfl hcd ?_
  rw [hbind]
  refine wpAny_pure (wpAny_newFunctionEnv hnc (fun y hy => ?_) (fun h₁ hns hsb => ⟨lim.fresh _ hsb, ?_⟩) hk)
  · have : y = (x, .ref t) := by simpa using hy
    rw [this]
    exact hx
  have kp : ∀ b o, s.heap.get? b = some o → h₁.get? b = some o := fun b o e => hsb.extBut b o (Nat.ne_of_lt (Heap.lt_size e)) (Heap.get?_push_of_some _ e)
  refine PySem.W.kla_codeExpr ?_
  refine Subscript_Constant ?_
  refine wpAny_Name (wpAny_loadName_local hk hx hns (v := .ref t) (by simp) ?_) hdb
  refine wpAny_Constant_int ?_
  refine ⟨"tuple", _, slot_tuple_getitem.lookup, (ht.keeps kp).typeIs, getItem_tuple (ht.keeps kp) (by omega) (by omega) (j := i) ?_ hi ?_⟩
  · have : i < its.size := (Array.getElem?_eq_some_iff.mp hi).1
    unfold seqIndex?
    simp
    omega
  · exact ⟨_, _, rfl, kp, .int _ _⟩
end Mi

/-! # sorted(e, key=lambda z: z[i]) -/
namespace Mi
open PySem PySem.Spec PyProof.Rows L2
section
variable {K : PySem.W.Frag} {φ : Fz} {μ : List Addr} {H H1 : Hp}
/-- where nothing but the tables changes -/
theorem RelS.extN {s : Sto} (rs : RelS K φ μ H s) (eN : LamX.ExtN H H1) (tb : TabOk K H1) : RelS K φ μ H1 s ∧ Le K φ μ H φ μ H1 := by
  have keep : ∀ b, H b ≠ none → (∀ ps, H b ≠ some (.tbl ps)) → H1 b = H b := fun b h1 h2 => by
    cases e : H b with
    | none => exact absurd e h1
    | some u => exact eN b u e fun ps z => h2 ps (by rw [e, z])
  have l : Le K φ μ H φ μ H1 := by
    refine ⟨fun _ h => h, List.prefix_refl _, fun a vs h => ?_, fun a x u h => eN _ _ h (fun _ z => nomatch z), fun p hp => keep _ (rs.here p hp) (rs.nt p hp), fun a q h => eN _ _ h (fun _ z => nomatch z)⟩
    rcases h with (h | ⟨x, h⟩) | h
    · exact .inl (.inl (eN _ _ h (fun _ z => nomatch z)))
    · exact .inl (.inr ⟨x, eN _ _ h (fun _ z => nomatch z)⟩)
    · exact .inr h
  refine ⟨⟨rs.nd, rs.len, fun n c a e1 e2 => (rs.cell n c a e1 e2).up_but l (keep a (rs.here_mu (List.mem_of_getElem? e2)) (rs.nt_mu (List.mem_of_getElem? e2))), rs.apart, fun p hp => ?_, rs.one, tb, fun p hp ps => ?_⟩, l⟩
  · rw [keep _ (rs.here p hp) (rs.nt p hp)]; exact rs.here p hp
  · rw [keep _ (rs.here p hp) (rs.nt p hp)]; exact rs.nt p hp ps
end
theorem oneArg_is {ps : Arguments} {z : Str} (h : oneArg ps z = true) : ∃ p, ps = ⟨[], [⟨z, none, p⟩], none, [], [], none, []⟩ := by
  unfold oneArg at h
  split at h
  · rename_i y p
    rw [of_decide_eq_true h]
    exact ⟨p, rfl⟩
  · cases h
theorem oneArg_bind {z : Str} {p : Pos} {name qual : Str} {body : Expr} {scope : Scope} {cl : List (Str × Addr)} {pm cdv ctv : Value} (v : Value) :
    bindArgs (PySem.W.kla_fn name qual ⟨[], [⟨z, none, p⟩], none, [], [], none, []⟩ body scope cl pm cdv ctv) ⟨[v], []⟩ = pure [(z, v)] := by
  have hz : (z == z) = true := beq_self_eq_true z
  unfold bindArgs
  simp [PySem.W.kla_fn, seqItems?, List.lookup, hz]
  rfl
/-- the pairs of what is told and what stands there -/
theorem each_of {K : PySem.W.Frag} {φ : Fz} {μ : List Addr} {H : Hp} {i : Nat} : ∀ {ds : List D} {vs : List V} {us : List Value}, RelL K φ μ H ds vs → Vals vs us → ds.all (keyed i) = true → PySem.W.EachIs (fun (u : Value) (x : D × V) => RelV x.2 u ∧ RelD K φ μ H x.1 x.2 ∧ keyed i x.1 = true) us (ds.zip vs)
  | [], vs, us, rl, rv, h => by
    have e := rl.of_nil
    subst e
    cases rv
    exact .nil
  | d :: ds, vs, us, rl, rv, h => by
    obtain ⟨v, r, rfl, h1, h2⟩ := rl.of_cons
    cases rv with
    | cons a b =>
      rw [List.all_cons, Bool.and_eq_true] at h
      exact .cons ⟨a, h1, h.1⟩ (each_of h2 b h.2)
theorem each_back {K : PySem.W.Frag} {φ : Fz} {μ : List Addr} {H : Hp} {i : Nat} {us : List Value} {bs : List (D × V)} (h : PySem.W.EachIs (fun (u : Value) (x : D × V) => RelV x.2 u ∧ RelD K φ μ H x.1 x.2 ∧ keyed i x.1 = true) us bs) : Vals (bs.map (·.2)) us ∧ RelL K φ μ H (bs.map (·.1)) (bs.map (·.2)) := by
  induction h with
  | nil => exact ⟨.nil, .nil⟩
  | cons h t ih => exact ⟨.cons h.1 ih.1, .cons h.2.1 ih.2⟩
section
variable {T : Tab} {xc : XcT} {o : Orc} {W : WX} {k : Nat} {C : SC} {X : Cx}
theorem s_srk {m : Md} {a : E} {i : Nat} {e : Expr} (G : Good T xc o W k C X) (ia : IhE T xc o W C X a) (h : mtE T m C (.srk a i) e = true) : PE X e (rdP X.K xc o W (.srk a i)) := by
  simp only [mtE] at h
  split at h <;> first | cases h | skip
  rename_i x p l ks pos
  simp only [Bool.and_eq_true] at h
  obtain ⟨⟨⟨⟨h1, h2⟩, h3⟩, h4⟩, h5⟩ := h
  obtain ⟨e1, g1, g2⟩ := blt_ok G h1
  subst e1
  obtain ⟨lx, hlx⟩ := Option.isSome_iff_exists.mp h2
  have L := G.lam lx hlx
  unfold keyLamB at h3
  split at h3 <;> first | cases h3 | skip
  rename_i kw ps z zp j jk jp bp scope lp kp
  simp only [Bool.and_eq_true] at h3
  obtain ⟨⟨⟨⟨k1, k2⟩, k3⟩, k4⟩, k5⟩ := h3
  have k1 := of_decide_eq_true k1
  subst k1
  have k3 := of_decide_eq_true k3
  subst k3
  have k4 := of_decide_eq_true k4
  obtain ⟨ap, rfl⟩ := oneArg_is k2
  unfold lamB at k5
  simp only [Bool.and_eq_true, Bool.not_eq_true', List.all_eq_true] at k5
  obtain ⟨⟨⟨⟨⟨q1, q2⟩, q3⟩, q4⟩, q5⟩, q6⟩ := k5
  have q1 := of_decide_eq_true q1
  have q5 := of_decide_eq_true q5
  have pa := pa1 (to_Q (ia l h4)) h5
  refine ⟨fun pins s σ H Q I hr => ?_⟩
  obtain ⟨φ, μ, env, st, rs, re, hf⟩ := hr
  simp only [ev] at hf
  refine wpAny_Call_Name_kw (ld_blt I g1 g2 PyProof.Rows.boot_sorted ?_ (by decide +kernel) (by decide +kernel))
  refine PyProof.Rows.callWith_kw (thn (pa.run pos pins s σ H (fun vs H1 => ∃ φ1 μ1 st1 q v, vs = [v] ∧ RelS X.K φ1 μ1 H1 st1 ∧ relQ X.K φ1 μ1 H1 q v ∧ Fin X.K W (relP X.K) φ1 μ1 H1 σ (if q.1 = true then R.no else if q.2.all (keyed i) = true then R.ok (P.new (srtK i q.2)) st1 else R.no) Q) I (seqq rs re hf fun q s1 φ1 μ1 H1 v l1 rs1 re1 rq h1 => ⟨φ1, μ1, s1, q, v, rfl, rs1, rq, h1⟩)) fun us s1 ⟨vs, H1, I1, r1, φ1, μ1, st1, q, v, ev, rs1, rq, h1⟩ => ?_) (by rw [star_cons h5] <;> rfl) (stars1 h5)
  subst ev
  obtain ⟨a0, vs0, rfl, hs, rl⟩ := rq
  obtain rfl := Vals.ref1 r1
  by_cases c : q.1 = true
  · rw [if_pos c] at h1; exact h1.elim
  rw [if_neg c] at h1
  have c2 : q.2.all (keyed i) = true := by
    cases z : q.2.all (keyed i) with
    | true => rfl
    | false => rw [z, if_neg (by decide)] at h1; exact h1.elim
  rw [if_pos c2] at h1
  unfold SqA at hs
  rw [if_neg c] at hs
  show wpAny _ _ (evalAll ((do let v ← eval (.Lambda ⟨[], [⟨z, none, ap⟩], none, [], [], none, []⟩ (.Subscript (.Name z zp) (.Constant (.int (i : Int)) jk jp) bp) scope lp) X.env; standAt pos; pure v) :: [])) _ _ s1
  refine wpAny_evalAll_cons (wpAny_bind ?_)
  refine LamX.lam_make2 (T := (lamMakers.filter fun x => (He.Fa.glo x).ok X.K).map fun x => ((He.cT X.K (x, none)).2, lamQual x)) I1 L.tb L.code (by rw [L.qual]; exact List.mem_map.mpr ⟨lx, List.mem_filter.mpr ⟨L.mem, L.glo⟩, rfl⟩) (fun y hy e => ?_) (fun y hy => ?_) rfl (fun y hy e => ?_) fun f c' pm ctv H2 s2 I2 eN T2 of1 hfn hfr hco => ?_
  · obtain ⟨w, hw, rfl⟩ := List.mem_map.mp hy
    obtain ⟨w1, w2⟩ := List.mem_filter.mp hw
    rw [L.uq w w1 w2 e, L.qual]
  · obtain ⟨w, hw, rfl⟩ := List.mem_map.mp hy
    obtain ⟨w1, w2⟩ := List.mem_filter.mp hw
    exact rs1.tabs w w1 w2
  · have := of_decide_eq_true (q4 y hy)
    rw [e] at this
    cases this
  have tb2 : TabOk X.K H2 := fun x hx g => T2 _ (List.mem_map.mpr ⟨x, List.mem_filter.mpr ⟨hx, g⟩, rfl⟩)
  obtain ⟨rs2, le2⟩ := rs1.extN eN tb2
  refine wpAny_bind (wpAny_standAt (wpAny_pure (wpAny_evalAll_nil ?_)))
  show wpAny _ _ (call (.builtin "sorted") [.ref a0] [(("key" : Str), .ref f)]) _ _ s2
  have hs2 : SqL X.K H2 a0 vs0 := by
    rcases hs with (h | ⟨w, h⟩) | h
    · exact .inl (.inl (eN _ _ h (fun _ z => nomatch z)))
    · exact .inl (.inr ⟨w, eN _ _ h (fun _ z => nomatch z)⟩)
    · exact .inr h
  have rl2 := rl.up le2
  have h2' := h1.up le2
  obtain ⟨its, rv, hl, hz⟩ := I2.list hs2
  have ee := each_of rl2 rv c2
  have lnz : (q.2.zip vs0).length = vs0.length := by rw [List.length_zip, rl2.length, Nat.min_self]
  have un := G.room.un
  refine PySem.W.sorted_key_data (b := false) (fun x : D × V => PyData.int (keyAt i x.1)) hl.isList ee (PySem.W.AllAlike.of fun _ _ => by simp [PySem.W.alike]) (PySem.W.Sortable.others fun _ => ⟨(fun z => nomatch z), (fun _ z => nomatch z)⟩) (by rw [lnz]; exact hz) (fun y _ => ?_) (PyProof.Rows.ksk_s1 _ _) (fun _ => PyProof.Rows.ksk_l1 _ _) (fun _ => PyProof.Rows.ksk_t1 _ _)
    (fun u y hR hy h0 tk0 kp => ?_) fun out c0 h3 tk3 kp fresh hD hlen eo => ?_
  · show X.A.units + 2 + 0 < cLine
    omega
  · obtain ⟨ra, rb, rc⟩ := hR
    obtain ⟨d, w⟩ := y
    cases d with
    | tup ds =>
      unfold keyed at rc
      simp only at rc
      unfold RelD at rb
      obtain ⟨t, ws, ew, ht, rws⟩ := rb
      simp only at ew
      subst ew
      have eu : u = Value.ref t := ra
      subst eu
      obtain ⟨tis, rv2, htup, _⟩ := I2.tuple ht
      split at rc <;> first | cases rc | skip
      rename_i kk ek
      obtain ⟨vv, e2, rk⟩ := rws.get ek
      have ev := relD_int rk
      subst ev
      obtain ⟨uu, e3, rr⟩ := rv2.get e2
      obtain ⟨tk, eu⟩ := rr
      subst eu
      have ka : keyAt i (.tup ds) = kk := by unfold keyAt; simp only [ek]
      simp only [ka]
      obtain ⟨⟨oc, cvs, ct, hoc, hdc, hvc⟩, _, _⟩ := I2.hok c' _ hco
      have rm := G.room.dp
      exact key_call (by show X.A.in1.in1.depth < recursionLimit; show X.A.depth < _; omega) (I2.nolimit.keeps kp) (kp _ _ of1) ⟨c', oc, cvs, ct, rfl, kp _ _ hoc, hdc, hvc⟩ q2 q3 q1 (fun y hy e => by have := of_decide_eq_true (q4 y hy); rw [e] at this; cases this) q5 q6 (fun v => oneArg_bind v) (htup.keeps kp) (by simpa using e3) k4
    | _ => cases rc
  · rw [PySem.W.dataLe_int (fun x : D × V => keyAt i x.1)] at eo
    obtain ⟨rv3, rl3⟩ := each_back eo
    have so : ((q.2.zip vs0).mergeSort fun a b => decide (keyAt i a.1 ≤ keyAt i b.1)).map (·.1) = srtK i q.2 := by
      rw [PySem.W.sort_maps (fun x : D × V => x.1) (s := fun a b => decide (keyAt i a ≤ keyAt i b)) (fun _ _ _ _ => rfl)]
      unfold srtK
      congr 1
      exact List.map_fst_zip (by rw [rl2.length]; exact Nat.le_refl _)
    rw [so] at rl3
    have len3 : (((q.2.zip vs0).mergeSort fun a b => decide (keyAt i a.1 ≤ keyAt i b.1)).map (·.2)).length ≤ sizeLine := by
      rw [List.length_map, List.length_mergeSort, lnz]; exact hz
    refine ⟨.ref _, upd H2 (s2.heap.objs.size + 1) (.lst (((q.2.zip vs0).mergeSort fun a b => decide (keyAt i a.1 ≤ keyAt i b.1)).map (·.2))), I2.laid (t' := tk3) kp (Nat.le_succ _) ⟨len3, _, c0, rv3, hD⟩, rfl, ?_⟩
    exact new_fin h2' rs2 rl3 _ (I2.hok.fresh (Nat.le_succ _))
end
end Mi

/-! # o.f, a property whose getter keeps what FnG says -/
namespace Mi
open PySem PySem.Spec PyProof.Rows L2
section
variable {X : Cx} {j : Nat} {C0 p fa : Addr} {n : Str} {fd : PySem.FuncData} {ps : List Str} {sp : Sp} {ob : Expr} {pos : Pos} {te : TE}
theorem pe_prp (he : PE X ob te) (c : Cls X.K C0) (hp : PropOf X.K C0 n p fa) (F : FnG X.prog X.w X.K X.mg X.base j fa fd ps sp) (hr : Room (j + 1) X.A) (hgd : X.A.guards = some []) (hb : Binds X.K fd ps [])
    (hab : attributeBase ob n X.env (eval ob X.env) = eval ob X.env) : PE X (.Attribute ob n pos) (fun σ H Q => te σ H fun x H1 => ∃ a dx fs, x = .ref a ∧ H1 a = some (.ins C0 dx fs) ∧ sp [.ref a] H1 Q fun _ _ _ => False) := by
  refine ⟨fun pins s σ H Q I h => ?_⟩
  refine attr_of hab (thn (he.run pins s σ H _ I h) fun u s1 ⟨x, H1, I1, rx, a, dx, fs, ex, ea, q⟩ => ?_)
  subst ex
  obtain rfl : u = Value.ref a := rx
  obtain ⟨mA, O, _, _, _, _⟩ := ins_get I1.hok ea
  obtain ⟨od, J, _⟩ := O.look
  obtain ⟨rest, hrec⟩ := hp.rec_
  have I2 := I1.tok (s1.toks + 1)
  have hc : (PySem.W.clsIn X.K C0).isSome = true := by
    obtain ⟨cd, hc, _⟩ := PySem.W.any_some c.hd
    rw [hc]
    rfl
  refine PySem.W.get_bind I1.kIn J (PySem.W.plainGet_of (c.get n)).1 (PySem.W.findObj_data hc hp.at_ hp.get hp.tak) (PySem.W.plainGet_of (c.get n)).2 (wpAny_call (PySem.W.prop_get (s := { s1 with toks := s1.toks + 1 }) I1.kIn hrec ?_))
  refine codeAny_mono (F.run X.A.in1 X.stack { s1 with toks := s1.toks + 1 } H1 ⟨[.ref a], []⟩ [.ref a] [.ref a] Q _ hgd hr.in1 I2.env0.in1 ?_ (.cons rfl .nil) q) fun r s' hq => ?_
  · have hl : ([Value.ref a] ++ []).length = ps.length := F.len _ _ _ _ q
    have := hb { s1 with toks := s1.toks + 1 } [.ref a] I2.kIn hl
    rw [List.append_nil] at this
    exact this
  cases r with
  | error er =>
    obtain ⟨_, _, _, _, _, _, _, _, _, _, _, _, no⟩ := hq
    exact no.elim
  | ok fl =>
    cases fl with
    | ret u =>
      obtain ⟨v, H', I3, rv, q3⟩ := I2.after hq
      show wpAny _ _ (handedOut u) _ _ _
      rw [PySem.W.handedOut_of (handed_of rv)]
      exact wpAny_pure ⟨v, H', I3, rv, q3⟩
    | next => exact False.elim hq
    | brk => exact False.elim hq
    | cont => exact False.elim hq
end
end Mi

/-! # Errors that are held, lambdas handed on, properties -/
namespace Mi
open PySem PySem.Spec PyProof.Rows L2
section
variable {T : Tab} {xc : XcT} {o : Orc} {W : WX} {k : Nat} {C : SC} {X : Cx}
/-- what a suite of except knows, too -/
structure GoodS (T : Tab) (xc : XcT) (C : SC) (X : Cx) : Prop where
  nd : C.N.Nodup
  N : X.N = C.N
  sc : X.env.scope = C.sc
  fn : X.fn = C.fn
  free : ∀ x ∈ T.frees, X.mg x = none
  th : xc.th ≠ none → C.th = true
  errs : ∀ c ∈ T.errs, (∃ C fI Dq, ErrAt X.K c C fI Dq ∧ X.mg (Str.ofString c) = some (.ref C) ∧ ErrFn X.prog X.K fI Dq) ∧ IsX X.K c
theorem Good.s (G : Good T xc o W k C X) : GoodS T xc C X := ⟨G.nd, G.N, G.sc, G.fn, G.free, G.th, G.errs⟩
theorem GoodS.suite {a : Addr} {pn : List (Addr × Obj)} (G : GoodS T xc C X) : GoodS T xc C (X.suite a pn) := ⟨G.nd, G.N, G.sc, G.fn, G.free, G.th, G.errs⟩
theorem blt_okS (G : GoodS T xc C X) {x y : Str} (h : bltB T C x y = true) : x = y ∧ Gl X y ∧ X.mg y = none := by
  unfold bltB isKind at h
  obtain ⟨h1, h2, h3⟩ := and3 h
  have e := of_decide_eq_true h1
  subst e
  refine ⟨rfl, ?_, G.free x (memS_mem h3)⟩
  show X.env.scope.names.lookup x = some .globalImplicit
  rw [G.sc]
  exact of_decide_eq_true h2
/-- an error class by its name -/
theorem isx_ok (G : GoodS T xc C X) {z c : Str} (h : isxB T C z c = true) : z = c ∧ Gl X z ∧ (z == ("__debug__" : Str)) = false ∧ ∃ y, y ∈ T.errs ∧ Str.ofString y = c := by
  unfold isxB isKind at h
  obtain ⟨h1, h2, h3, h4⟩ := and4 h
  obtain ⟨y, hy, e⟩ := List.any_eq_true.mp h2
  refine ⟨of_decide_eq_true h1, ?_, (plain_dbg h4).1, y, hy, of_decide_eq_true e⟩
  show X.env.scope.names.lookup z = some .globalImplicit
  rw [G.sc]
  exact of_decide_eq_true h3
theorem ise_core {a : E} {c : Str} {x z : Str} {l : Expr} {p zp pos : Pos} (G : GoodS T xc C X) (ia : PE X l (rdP X.K xc o W a)) (h1 : bltB T C x "isinstance" = true) (h3 : notStar l = true) (h4 : isxB T C z c = true) :
    PE X (.Call (.Name x p) [l, .Name z zp] [] pos) (rdP X.K xc o W (.ise a c)) := by
  obtain ⟨e1, g1, g2⟩ := blt_okS G h1
  obtain ⟨b1', b2', b3, b4, b5, b6, b7, b8, b9, b10, b11, b12, b13, b14⟩ := blt_names
  obtain ⟨ez, gz, gd, y, hy, ey⟩ := isx_ok G h4
  obtain ⟨⟨Cz, fz, Dz, az, mz, _⟩, isx⟩ := G.errs y hy
  rw [ey] at mz
  subst e1 ez
  have st := star_cons (es := [.Name z zp]) (env := X.env) h3
  have pt : PE X (.Name z zp) (tC (.ref Cz)) := pe_glob gz mz rfl gd
  refine PE.imp (pe_callB call_isX g1 g2 b5 (pa_cons (to_E ia) (pa_cons pt pa_nil) st) (show ¬ ("isinstance" : Str) = "__name__" by decide +kernel) (show (("isinstance" : Str) == ("__debug__" : Str)) = false by decide +kernel) st (noStars_back rfl)) fun σ H Q => ?_
  rintro ⟨φ, μ, env, s, rs, re, h⟩
  simp only [ev] at h
  refine seqv rs re h fun d s1 φ1 μ1 H1 v l1 rs1 re1 rd1 h1 => ?_
  cases d <;> first | exact h1.elim | skip
  rename_i dc dv
  obtain ⟨e, C, fI, Dq, dd, w, rfl, q1, q2, q3, q4, q5, q6⟩ := relD_exc rd1
  exact ⟨e, C, fI, Dq, dd, .ref Cz, w, .ref Cz, excIs dc z, rfl, q5.2.2.1, q3, q4, fun u r => r, by rw [← ey]; exact isx dc q5.1 C Cz q5.2.1 az.2.1, fin_val h1 rs1 mk_bl⟩
theorem exv_core {a : E} {l : Expr} {pos : Pos} (ia : PE X l (rdP X.K xc o W a)) (h2 : notCall0 l = true) : PE X (.Attribute l "value" pos) (rdP X.K xc o W (.exv a)) := by
  refine PE.imp (pe_ev (to_E ia) (base_plain h2)) fun σ H Q => ?_
  rintro ⟨φ, μ, env, s, rs, re, h⟩
  simp only [ev] at h
  refine seqv rs re h fun d s1 φ1 μ1 H1 v l1 rs1 re1 rd1 h1 => ?_
  cases d <;> first | exact h1.elim | skip
  rename_i dc dv
  obtain ⟨e, C, fI, Dq, dd, w, rfl, q1, q2, q3, q4, q5, q6⟩ := relD_exc rd1
  exact ⟨e, C, fI, Dq, dd, w, rfl, q5.2.2.1, q3, q4, fin_val h1 rs1 q6⟩
theorem s_ise {m : Md} {a : E} {c : Str} {e : Expr} (G : Good T xc o W k C X) (ia : IhE T xc o W C X a) (h : mtE T m C (.ise a c) e = true) : PE X e (rdP X.K xc o W (.ise a c)) := by
  simp only [mtE] at h
  split at h <;> first | cases h | skip
  obtain ⟨h1, h2, h3, h4⟩ := and4 h
  exact ise_core G.s (ia _ h2) h1 h3 h4
theorem s_exv {m : Md} {a : E} {e : Expr} (G : Good T xc o W k C X) (ia : IhE T xc o W C X a) (h : mtE T m C (.exv a) e = true) : PE X e (rdP X.K xc o W (.exv a)) := by
  simp only [mtE] at h
  split at h <;> first | cases h | skip
  obtain ⟨h1, h2, h3⟩ := and3 h
  rw [of_decide_eq_true h1]
  exact exv_core (ia _ h3) h2
/-! ### a lambda that a def was handed -/
theorem th_ok (G : Good T xc o W k C X) {i : Nat} {x : Str} (h : thB C i x = true) : i = 0 ∧ C.tp = true ∧ X.N[0]? = some x ∧ Vis X.env.scope x ∧ (x == ("__debug__" : Str)) = false ∧ (x == ("__classdict__" : Str)) = false := by
  unfold thB at h
  simp only [Bool.and_eq_true, decide_eq_true_eq] at h
  obtain ⟨⟨⟨⟨⟨h1, h2⟩, h3⟩, h4⟩, h5⟩, h6⟩ := h
  obtain ⟨d1, d2, _⟩ := plain_dbg h6
  exact ⟨h3, h2, by rw [G.N]; exact h4, by rw [G.sc]; exact visB_ok h5, d1, d2⟩
/-- the first name, its lambda -/
theorem th_env {K : PySem.W.Frag} {φ : Fz} {μ : List Addr} {H : Hp} {env : Env} {σ : L2.St} {n : Nat} {ds : List D} (re : RelE xc K φ μ H env σ) (he : env[0]? = some (some (.clo n ds))) :
    ∃ t, xc.th = some t ∧ n = t.n ∧ σ[0]? = some (some (.ref t.f)) ∧ RelL K φ μ H ds t.vs ∧ H t.c = some (LamX.CodeO t.c t.q) := by
  cases e : xc.th with
  | none =>
    obtain ⟨v, _, z⟩ := re.at_ 0 _ he (fun z => absurd e z)
    exact (relD_clo z).elim
  | some t =>
    obtain ⟨h1, ⟨ds', h2, h3⟩, h4⟩ := re.cl t e
    rw [he] at h2
    cases h2
    exact ⟨t, rfl, rfl, h1, h3, h4⟩
theorem s_cll {m : Md} {i : Nat} {e : Expr} (G : Good T xc o W k C X) (h : mtE T m C (.cll i) e = true) : PE X e (rdP X.K xc o W (.cll i)) := by
  simp only [mtE] at h
  split at h <;> first | cases h | skip
  rename_i x p1 p2
  obtain ⟨rfl, tp, hN, hv, hd, hcd⟩ := th_ok G h
  obtain ⟨hex, _, _⟩ := G.tp tp
  refine ⟨fun pins s σ H Q I hr => ?_⟩
  obtain ⟨φ, μ, env, st, rs, re, h⟩ := hr
  simp only [ev] at h
  split at h <;> first | exact h.elim | skip
  rename_i n ds he
  obtain ⟨t, et, rfl, hs, rl, hc⟩ := th_env re he
  obtain ⟨ps, b, sc, ok, at0⟩ := G.cl tp t et
  refine wpAny_Call_Name_kw (thn ((pe_var (pos := p1) (i := 0) hN hv hd hcd).run pins s σ H (fun v H1 => v = .ref t.f ∧ H1 = H) I ⟨.ref t.f, hs, rfl, rfl⟩) fun u s1 ⟨v, H1, I1, r1, ev, eH⟩ => ?_)
  subst ev eH
  obtain rfl : u = Value.ref t.f := r1
  have at1 := at0.later I1 hex
  obtain ⟨pm, ctv, cl, of1, _⟩ := at1.ob
  refine PySem.W.callWith_F0 ⟨_, _, _, _, of1⟩ ?_
  have rc := (G.lamg t.n ps b sc ok).run X.A X.stack s1 H1 t.f t.c t.q t.vs Q (fun c d H2 => W c d σ H2) G.guards (G.room.mono (by omega)) I1.env0 at1 hc ⟨φ, μ, st, ds, rs, rl, fin_fn h⟩
  refine wpAny_call (codeAny_mono rc fun r s' hq => ?_)
  cases r with
  | error e => exact G.takes _ _ (XE.of_call I1 (fun _ _ _ z => z) hq)
  | ok fl =>
    cases fl with
    | ret u => exact I1.after hq
    | next => exact False.elim hq
    | brk => exact False.elim hq
    | cont => exact False.elim hq
/-- such a def, run where it is called -/
theorem run_fnT {pins : List (Addr × Obj)} {σ : L2.St} {H : Hp} {s : Shared} {Q : VK} {f : Addr} {fd : PySem.FuncData} {ps : List Str} {sp : Th → Sp} {t : Th} {us : List Value} {vs : List V} (F : FnT T X.prog X.w X.K X.mg X.base k f fd ps sp) (hr : Room k X.A) (hgd : X.A.guards = some []) (tk : Takes X W) (hb : Binds X.K fd ps [])
    (I : L2.Inv X pins σ H s) (cl : ClIn T t (frs X.stack) H s.heap) (r : Vals vs us) (q : sp t vs H Q fun c d H2 => W c d σ H2) : wpAny (model X.prog X.w) X.A (call (.ref f) (.ref t.f :: us)) (EP X pins σ Q) X.xe s := by
  have hl : (Value.ref t.f :: us).length = ps.length := by
    have := F.len t vs H Q _ q
    have l2 := r.length
    rw [List.length_cons]
    omega
  have bd := hb s (.ref t.f :: us) I.kIn (by rw [List.append_nil]; exact hl)
  rw [List.append_nil] at bd
  refine wpAny_call (codeAny_mono (F.run X.A X.stack s H ⟨.ref t.f :: us, []⟩ t us vs Q _ hgd hr I.env0 cl bd r q) fun r s' hq => ?_)
  cases r with
  | error e => exact tk _ _ (XE.of_call I (fun _ _ _ z => z) hq)
  | ok fl =>
    cases fl with
    | ret u => exact I.after hq
    | next => exact False.elim hq
    | brk => exact False.elim hq
    | cont => exact False.elim hq
theorem s_fwd {m : Md} {f i : Nat} {es : Es} {e : Expr} (G : Good T xc o W k C X) (ih : ∀ e, EsHas es e → IhE T xc o W C X e) (h : mtE T m C (.fwd f i es) e = true) : PE X e (rdP X.K xc o W (.fwd f i es)) := by
  simp only [mtE] at h
  split at h <;> first | cases h | skip
  rename_i x p a pa ls pos
  simp only [Bool.and_eq_true] at h
  obtain ⟨⟨⟨⟨h1, h2⟩, h3⟩, h4⟩, h5⟩ := h
  obtain ⟨rfl, tp, hN, hv, hd, hcd⟩ := th_ok G h4
  obtain ⟨hex, _, _⟩ := G.tp tp
  obtain ⟨fa, fd, ps, g1, g2, g3, g4⟩ := G.thk f x (of_decide_eq_true h1)
  have hgl : Gl X x := by
    show X.env.scope.names.lookup x = some .globalImplicit
    rw [G.sc]
    exact of_decide_eq_true h2
  have hs := mtEs_stars h5
  have st : starEach (.Name a pa :: ls) X.env = (false, eval (.Name a pa) X.env) :: starEach ls X.env := rfl
  have pas := pa_cons (pe_var (pos := pa) (i := 0) hN hv hd hcd) (s_es ih h5) st
  refine ⟨fun pins s σ H Q I hr => ?_⟩
  obtain ⟨φ, μ, env, st0, rs, re, h⟩ := hr
  simp only [ev] at h
  split at h <;> first | exact h.elim | skip
  rename_i n ds he
  obtain ⟨t, et, rfl, hs0, rl, hc⟩ := th_env re he
  refine wpAny_Call_Name_kw (ld_glob I hgl g1 ?_ (plain_dbg h3).1)
  refine PySem.W.callWith_K (h₀ := X.base) I.ok.mod.kin g2 (thn (pas.run pos pins s σ H (fun vs H1 => ∃ vs', vs = .ref t.f :: vs' ∧ spT X.K o f t vs' H1 Q fun c d H2 => W c d σ H2) I ⟨.ref t.f, hs0, φ, μ, env, st0, rs, re, Fin.bind h fun ds' s1 φ1 μ1 H1 vs l1 rs1 rl1 h1 => ⟨vs, rfl, φ1, μ1, s1, ds, ds', rs1, rl.up l1, rl1, l1.ext _ _ hc, fin_fn h1⟩⟩) ?_) st (noStars_back hs)
  rintro us s1 ⟨vs, H1, I1, r, vs', ev, q⟩
  subst ev
  cases r with
  | @cons _ u0 _ ur ra rr =>
    obtain rfl : u0 = Value.ref t.f := ra
    refine ⟨I1.kIn, ?_⟩
    obtain ⟨ps', b, sc, ok, at0⟩ := G.cl tp t et
    exact run_fnT g4 (G.room.mono (by omega)) G.guards G.takes g3 I1 ⟨ps', b, sc, ok, at0.later I1 hex⟩ rr q
/-! ### a property -/
theorem s_prp {m : Md} {f : Nat} {c n : Str} {a : E} {e : Expr} (G : Good T xc o W k C X) (ia : IhE T xc o W C X a) (h : mtE T m C (.prp f c n a) e = true) : PE X e (rdP X.K xc o W (.prp f c n a)) := by
  simp only [mtE] at h
  split at h <;> first | cases h | skip
  obtain ⟨h1, h2, h3, h4⟩ := and4 h
  obtain ⟨C0, p, fa, fd, ps, c1, c2, c3, c4, c5⟩ := G.prp f c n (of_decide_eq_true h2)
  rw [of_decide_eq_true h1]
  refine PE.imp (pe_prp (to_E (ia _ h4)) c2 c3 c5 G.room G.guards c4 (base_plain h3)) fun σ H Q => ?_
  rintro ⟨φ, μ, env, s, rs, re, h⟩
  simp only [ev] at h
  refine seqv rs re h fun x s1 φ1 μ1 H1 v l1 rs1 re1 rd1 h1 => ?_
  cases z : insOf x s1 with
  | none => rw [z] at h1; exact h1.elim
  | some q =>
    rw [z] at h1
    obtain ⟨p', C1, dx, ws, rfl, g1, g2, g3⟩ := ins_rel rs1 rd1 z
    by_cases hc : q.1 = c
    · simp only [hc, if_true] at h1
      rw [hc] at g2
      have ec := g2.one c1
      subst ec
      refine ⟨p', dx, ws, rfl, g1, φ1, μ1, s1, [x], rs1, .cons rd1 .nil, ?_⟩
      revert h1
      generalize o f [x] s1 = r
      intro h1
      cases r with
      | no => exact h1.elim
      | ex _ _ _ => exact h1.elim
      | ok d s2 => exact h1
    · simp only [hc, if_false] at h1
      exact h1.elim
/-! ### a lambda is made and handed on -/
theorem capt_rel (G : Good T xc o W k C X) {φ : Fz} {μ : List Addr} {H : Hp} {env : Env} {σ : L2.St} (re : RelE xc X.K φ μ H env σ) : ∀ {cs : List Nat} {xs : List Str} {ds : List D}, capB C cs xs = true → capt env cs = some ds →
    ∃ vs : List V, RelL X.K φ μ H ds vs ∧ vs.length = xs.length ∧ ∀ (i : Nat) y v, xs[i]? = some y → vs[i]? = some v → ∃ j : Nat, X.N[j]? = some y ∧ σ[j]? = some (some v)
  | [], [], ds, _, h => by
    cases h
    exact ⟨[], .nil, rfl, fun i y v e _ => by simp at e⟩
  | [], _ :: _, _, h, _ => by unfold capB at h; cases h
  | _ :: _, [], _, h, _ => by unfold capB at h; cases h
  | j :: cs, x :: xs, ds, h, hc => by
    unfold capB at h
    simp only [Bool.and_eq_true] at h
    obtain ⟨⟨⟨h1, h2⟩, h3⟩, h4⟩ := h
    simp only [capt] at hc
    split at hc <;> first | cases hc | skip
    rename_i d l e1 e2
    have n0 : xc.th ≠ none → j ≠ 0 := fun z => by
      rw [G.th z] at h3
      exact of_decide_eq_true (by simpa using h3)
    obtain ⟨v, g1, g2⟩ := re.at_ j d e1 n0
    obtain ⟨vs, k1, k2, k3⟩ := capt_rel G re h4 e2
    refine ⟨v :: vs, .cons g2 k1, by rw [List.length_cons, List.length_cons, k2], fun i y w f1 f2 => ?_⟩
    cases i with
    | zero =>
      have e3 : x = y := by simpa using f1
      have e4 : v = w := by simpa using f2
      subst e3 e4
      exact ⟨j, by rw [G.N]; exact of_decide_eq_true h1, g1⟩
    | succ i => exact k3 i y w (by simpa using f1) (by simpa using f2)
theorem s_fnl {m : Md} {f n : Nat} {cs : List Nat} {es : Es} {e : Expr} (G : Good T xc o W k C X) (ih : ∀ e, EsHas es e → IhE T xc o W C X e) (h : mtE T m C (.fnl f n cs es) e = true) : PE X e (rdP X.K xc o W (.fnl f n cs es)) := by
  simp only [mtE] at h
  split at h <;> first | cases h | skip
  rename_i x p ps b sc lp ls pos
  simp only [Bool.and_eq_true] at h
  obtain ⟨⟨⟨⟨h1, h2⟩, h3⟩, ⟨⟨⟨⟨q1, q3⟩, q4⟩, q5⟩, q6⟩, q7⟩, h5⟩ := h
  obtain ⟨lx, hlx⟩ := Option.isSome_iff_exists.mp q1
  have L := G.lam lx hlx
  have LS : LamX.LamS X.env.scope sc := by rw [G.sc]; exact LamX.lamS_by q4
  have SC := lamScB_ok q6
  obtain ⟨fa, fd, pps, g1, g2, g3, g4⟩ := G.thk f x (of_decide_eq_true h1)
  have hgl : Gl X x := by
    show X.env.scope.names.lookup x = some .globalImplicit
    rw [G.sc]
    exact of_decide_eq_true h2
  have hs := mtEs_stars h5
  refine ⟨fun pins s σ H Q I hr => ?_⟩
  obtain ⟨φ, μ, env, st0, rs, re, h⟩ := hr
  simp only [ev] at h
  split at h <;> first | exact h.elim | skip
  rename_i ds he
  obtain ⟨vs0, rl0, len0, cap0⟩ := capt_rel G re q7 he
  refine wpAny_Call_Name_kw (ld_glob I hgl g1 ?_ (plain_dbg h3).1)
  refine PySem.W.callWith_K (h₀ := X.base) I.ok.mod.kin g2 ?_ (show starEach (.Lambda ps b sc lp :: ls) X.env = (false, eval (.Lambda ps b sc lp) X.env) :: starEach ls X.env from rfl) (noStars_back hs)
  show wpAny _ _ (spliced ((false, eval (.Lambda ps b sc lp) X.env) :: backTo pos (starEach ls X.env))) _ _ s
  have hfree := LamX.LamS.has LS I.ok
  refine Calls.spliced_cons (LamX.lam_make2 (T := (lamMakers.filter fun x => (He.Fa.glo x).ok X.K).map fun x => ((He.cT X.K (x, none)).2, lamQual x)) I L.tb L.code (by rw [L.qual]; exact List.mem_map.mpr ⟨lx, List.mem_filter.mpr ⟨L.mem, L.glo⟩, rfl⟩) (fun y hy e => ?_) (fun y hy => ?_) (by rw [noPars_eq q5]; rfl) hfree fun f0 c' pm ctv H1 s1 I1 eN T1 of1 hfn hfr hco => ?_)
  · obtain ⟨w, hw, rfl⟩ := List.mem_map.mp hy
    obtain ⟨w1, w2⟩ := List.mem_filter.mp hw
    rw [L.uq w w1 w2 e, L.qual]
  · obtain ⟨w, hw, rfl⟩ := List.mem_map.mp hy
    obtain ⟨w1, w2⟩ := List.mem_filter.mp hw
    exact rs.tabs w w1 w2
  have tb1 : TabOk X.K H1 := fun x hx g => T1 _ (List.mem_map.mpr ⟨x, List.mem_filter.mpr ⟨hx, g⟩, rfl⟩)
  obtain ⟨rs1, le1⟩ := rs.extN eN tb1
  have re1 := re.up le1
  have nloc : f0 ≠ X.env.locals := fun z => by
    obtain ⟨m, ⟨o, es, ep, hL, hD, _⟩, _⟩ := I1.loc
    rw [← z, of1] at hL
    cases hL
    cases hD
  have nfs : ∀ b ∈ X.fs, b ∈ frs X.stack := fun b hb => by
    rcases I.ok.stk with e | ⟨e, _⟩
    · rw [e]; exact hb
    · obtain ⟨v, hv, q⟩ := List.mem_filterMap.mp hb
      rw [e]
      exact List.mem_filterMap.mpr ⟨v, List.mem_cons_of_mem _ hv, q⟩
  have I1' : L2.Inv X ((f0, PySem.W.kla_obj "<lambda>" (X.env.qual ++ "<lambda>") ps b sc (cloFrom X.env.cells sc.names []) pm c' ctv) :: pins) σ H1 s1 := by
    refine ⟨I1.ok, I1.os, I1.bare, I1.base, I1.loc, I1.cell, I1.free, I1.freeC, fun p hp => ?_, I1.hok, I1.len⟩
    rcases List.mem_append.mp hp with hp | hp
    · exact I1.pin p (List.mem_append_left _ hp)
    · rcases List.mem_cons.mp hp with rfl | hp
      · exact ⟨of1, hfn, nloc, fun z => hfr (nfs _ z), fun v z => nomatch z⟩
      · exact I1.pin p (List.mem_append_right _ hp)
  have rd : rdA X.K xc o W es σ H1 fun vs H2 => spT X.K o f ⟨n, vs0, f0, c', X.env.qual ++ "<lambda>"⟩ vs H2 Q fun c d H3 => W c d σ H3 :=
    ⟨φ, μ, env, st0, rs1, re1, Fin.bind (h.up le1) fun ds' s2 φ2 μ2 H2 vs l2 rs2 rl2 h2 => ⟨φ2, μ2, s2, ds, ds', rs2, rl0.up (le1.trans l2), rl2, l2.ext _ _ hco, fin_fn h2⟩⟩
  refine thn ((s_es ih h5).run pos _ s1 σ H1 _ I1' rd) fun us s2 ⟨vs, H2, I2', r, q⟩ => ⟨I2'.kIn, ?_⟩
  obtain ⟨pf1, pf2, _⟩ := I2'.pin (f0, _) (List.mem_append_right _ List.mem_cons_self)
  have I2 : L2.Inv X pins σ H2 s2 := ⟨I2'.ok, I2'.os, I2'.bare, I2'.base, I2'.loc, I2'.cell, I2'.free, I2'.freeC, fun p hp => I2'.pin p (by
    rcases List.mem_append.mp hp with hp | hp
    · exact List.mem_append_left _ hp
    · exact List.mem_append_right _ (List.mem_cons_of_mem _ hp)), I2'.hok, I2'.len⟩
  have cm : ∀ {y a}, (cloFrom X.env.cells sc.names []).lookup y = some a → X.env.cells.lookup y = some a := fun {y a} e => by
    rcases cloFrom_mem (PySem.mem_of_lookup e) with hm | ⟨k1, k2⟩
    · cases hm
    · obtain ⟨c1, hc⟩ := hfree _ k1 rfl
      have hc : X.env.cells.lookup y = some c1 := hc
      rw [k2, hc] <;> rfl
  have has : ∀ y ∈ sc.names, y.2 = .free → ∃ a, (cloFrom X.env.cells sc.names []).lookup y.1 = some a := fun y hy e => by
    obtain ⟨y1, y2⟩ := y
    have e : y2 = .free := e
    subst e
    exact mem_lookup (cloFrom_has (cells := X.env.cells) (acc := []) hy)
  refine run_fnT (us := us) g4 (G.room.mono (by omega)) G.guards G.takes g3 I2 ⟨ps, b, sc, q3, ⟨⟨pm, ctv, cloFrom X.env.cells sc.names [], pf1, fun x y a e1 e2 => I2.ok.inj x y a (cm e1) (cm e2), has, fun y a e => ⟨I2.freeC y a (cm e), I2.cell y a (cm e)⟩, fun i y v e1 e2 => ?_⟩, pf2, hfr, len0⟩⟩ r q
  obtain ⟨j, k1, k2⟩ := cap0 i y v e1 e2
  have fr := SC.fr y (List.mem_of_getElem? e1)
  obtain ⟨a, ea⟩ := has (y, .free) (PySem.mem_of_lookup fr) rfl
  obtain ⟨m, hn, hl⟩ := I2.loc
  have hv := LS.free _ (PySem.mem_of_lookup fr) rfl
  obtain ⟨u, ru, lk⟩ := hl j y v k1 k2 (.inr hv)
  rcases lk with ⟨z, _⟩ | ⟨_, c3, e3, z⟩
  · have z : X.env.scope.names.lookup y = some .local := z
    rcases hv with k | k <;> rw [show X.env.scope.names.lookup y = _ from k] at z <;> cases z
  · rw [cm ea] at e3
    cases e3
    exact ⟨a, u, ea, z, ru⟩
end
end Mi

/-! # All expressions -/
namespace Mi
open PySem L2
section
variable {T : Tab} {xc : XcT} {o : Orc} {W : WX} {k : Nat} {C : SC} {X : Cx}
theorem Fin.ofO' {K : PySem.W.Frag} {α β γ : Type} {rel : Rl γ β} {φ : Fz} {μ : List Addr} {H : Hp} {σ : St} {oa : Option α} {f : α → Sto → R γ} {s : Sto} {Q : β → Hp → Prop} (h : Fin K W rel φ μ H σ ((R.ofO oa s).bind f) Q) : ∃ a, oa = some a ∧ Fin K W rel φ μ H σ (f a s) Q := by
  cases oa with
  | some a => exact ⟨a, rfl, h⟩
  | none => exact h.elim
theorem rgV_rel {K : PySem.W.Frag} {φ : Fz} {μ : List Addr} {H : Hp} (lo : Int) : ∀ (l : List Nat), RelL K φ μ H (l.map fun (k : Nat) => D.int (lo + (k : Int))) (l.map fun i => V.int (lo + (i : Nat)))
  | [] => .nil
  | a :: l => .cons mk_int (rgV_rel lo l)
theorem s_lrg {m : Md} {es : Es} {e : Expr} (G : Good T xc o W k C X) (ih : ∀ e, EsHas es e → IhE T xc o W C X e) (h : mtE T m C (.lrg es) e = true) : PE X e (rdP X.K xc o W (.lrg es)) := by
  simp only [mtE] at h
  split at h <;> first | cases h | skip
  rename_i x p y p2 ls pos2 pos
  obtain ⟨h0, h1, h2, h3⟩ := and4 h
  have h01 := of_decide_eq_true h0
  obtain ⟨e1, g1, g2⟩ := blt_ok G h1
  obtain ⟨e2, g3, g4⟩ := blt_ok G h2
  subst e1 e2
  have hl := mtEs_len h3
  have hs := mtEs_stars h3
  match es, ls, h01, hl, hs, h3, ih with
  | .nil, ls, h01, hl, _, _, _ => rw [hl] at h01; simp [Es.len] at h01
  | .cons a .nil, [], h01, hl, _, _, _ => simp at h01
  | .cons a .nil, l :: l2 :: ls, h01, hl, _, _, _ => simp [Es.len] at hl
  | .cons a .nil, [l], _, _, hs, h3, ih =>
    unfold mtEs at h3
    obtain ⟨q1, q2, _⟩ := and3 h3
    refine PE.imp (pe_listRg G.calm g1 g2 (prg_1 g3 g4 (to_E (ih a .head l q1)) (star_cons q2)) rfl) fun σ H Q => ?_
    rintro ⟨φ, μ, env, s, rs, re, h⟩
    simp only [ev, evs, R.bindv] at h
    refine ⟨φ, μ, env, s, rs, re, ?_⟩
    revert h
    unfold evv
    generalize (ev o a env s).bind lay = r
    intro h
    cases r with
    | no => exact h.elim
    | ex c d s' => exact h
    | ok d s' =>
      intro φ1 μ1 H1 v l1 rs1 rd
      simp only [R.bind_ok] at h
      obtain ⟨xs, q, h'⟩ := Fin.ofO' h
      clear h
      rcases rangeOf_cases q with ⟨n, e1, c1, c2, e2⟩ | ⟨a, n, e1, _⟩
      · cases e1
        rw [relD_int rd]
        split at h'
        · rename_i hc
          have hc' : n.toNat ≤ 16777216 := by
            have : xs.length = n.toNat := by rw [e2]; simp
            rw [← this]; exact hc
          refine ⟨n, rfl, ⟨by omega, by omega, c2, c1, by omega⟩, new_fin (h'.up l1) rs1 ?_⟩
          subst e2
          have := rgV_rel (K := X.K) (φ := φ1) (μ := μ1) (H := H1) 0 (List.range n.toNat)
          unfold rgV
          simpa using this
        · exact h'.elim
      · cases e1
  | .cons a (.cons b .nil), [], h01, hl, _, _, _ => simp at h01
  | .cons a (.cons b .nil), [l], h01, hl, _, _, _ => simp [Es.len] at hl
  | .cons a (.cons b .nil), l :: l2 :: l3 :: ls, h01, hl, _, _, _ => simp [Es.len] at hl
  | .cons a (.cons b .nil), [l, l2], _, _, hs, h3, ih =>
    unfold mtEs at h3
    obtain ⟨q1, q2, h3⟩ := and3 h3
    unfold mtEs at h3
    obtain ⟨q3, q4, _⟩ := and3 h3
    refine PE.imp (pe_listRg G.calm g1 g2 (prg_2 g3 g4 (to_E (ih a .head l q1)) (to_E (ih b (.tail .head) l2 q3)) (by rw [star_cons q2, star_cons q4]) (star_cons q4) (by rw [star_cons q4]; rfl)) rfl) fun σ H Q => ?_
    rintro ⟨φ, μ, env, s, rs, re, h⟩
    simp only [ev, evs, R.bindv] at h
    refine ⟨φ, μ, env, s, rs, re, ?_⟩
    revert h
    unfold evv
    generalize (ev o a env s).bind lay = r
    intro h
    cases r with
    | no => exact h.elim
    | ex c d s' => exact h
    | ok d s' =>
      intro φ1 μ1 H1 v l1 rs1 rd
      simp only [R.bind_ok] at h
      refine ⟨φ1, μ1, env, s', rs1, re.up l1, ?_⟩
      revert h
      unfold evv
      generalize (ev o b env s').bind lay = r
      intro h
      cases r with
      | no => exact h.elim
      | ex c d s' => exact h.up l1
      | ok d2 s2 =>
        intro φ2 μ2 H2 v2 l2 rs2 rd2
        simp only [R.bind_ok] at h
        obtain ⟨xs, q, h'⟩ := Fin.ofO' h
        clear h
        rcases rangeOf_cases q with ⟨n, e1, _⟩ | ⟨a, n, e1, c1, c2, c3, c4, e2⟩
        · cases e1
        · cases e1
          rw [relD_int rd, relD_int rd2]
          split at h'
          · rename_i hc
            have hc' : (n - a).toNat ≤ 16777216 := by
              have : xs.length = (n - a).toNat := by rw [e2]; simp
              rw [← this]; exact hc
            refine ⟨a, n, rfl, rfl, ⟨c4, c3, c2, c1, by omega⟩, new_fin (h'.up (l1.trans l2)) rs2 ?_⟩
            subst e2
            exact rgV_rel a _
          · exact h'.elim
  | .cons a (.cons b (.cons c r)), ls, h01, hl, _, _, _ =>
    rw [hl] at h01
    simp [Es.len] at h01
/-- a matched piece, in each way of reading it -/
def Ok3 (T : Tab) (xc : XcT) (o : Orc) (k : Nat) (e : E) : Prop := ∀ (W : WX) (C : SC) (X : Cx), Good T xc o W k C X → (∀ x, mtE T .v C e x = true → PE X x (rdP X.K xc o W e)) ∧ (∀ x, mtE T .t C e x = true → PT X x (rdT X.K xc o W e)) ∧ (∀ x tg, mtE T (tgM tg) C e x = true → PI X tg x (rdI X.K xc o W e))
/-- forms that are only read as values -/
theorem ok3_plain {e : E} (hp : ∀ C x, mtE T .t C e x = true → plainTest x = true) (h : ∀ (W : WX) (C : SC) (X : Cx) (m : Md), Good T xc o W k C X → ∀ x, mtE T m C e x = true → PE X x (rdP X.K xc o W e)) : Ok3 T xc o k e :=
  fun W C X G => ⟨fun x m => h W C X .v G x m, fun x m => to_T (hp C x m) (h W C X .t G x m), fun x tg m => pi_val (h W C X (tgM tg) G x m)⟩
mutual
theorem allE : ∀ (e : E), Ok3 T xc o k e
  | .var i => ok3_plain (fun C x h => by unfold mtE at h; cases x <;> first | cases h | rfl) fun W C X m G x h => s_var G h
  | .con d => ok3_plain (fun C x h => by unfold mtE at h; cases x <;> first | cases h | rfl) fun W C X m G x h => s_con h
  | .glo d => ok3_plain (fun C x h => by unfold mtE at h; cases x <;> first | cases h | rfl) fun W C X m G x h => s_glo G h
  | .bin op a b => ok3_plain (fun C x h => by unfold mtE at h; cases x <;> first | cases h | rfl) fun W C X m G x h => s_bin (allE a W C X G).1 (allE b W C X G).1 h
  | .neg a => ok3_plain (fun C x h => by
      unfold mtE at h
      cases x <;> first | cases h | skip
      rename_i q _ _
      cases q <;> first | cases h | skip
      all_goals (simp at h)) fun W C X m G x h => s_neg (allE a W C X G).1 h
  | .not a => fun W C X G => ⟨fun x h => s_not (m := .v) (allE a W C X G).1 h, fun x h => t_not (allE a W C X G).2.1 h, fun x tg h => by
      unfold mtE at h
      cases x <;> first | cases h | skip
      rename_i q _ _
      cases q <;> first | cases h | skip
      all_goals (simp [tgM_isI] at h)⟩
  | .and es => fun W C X G => ⟨fun x h => by
      unfold mtE at h
      cases x <;> first | cases h | skip
      rename_i q _ _
      cases q <;> first | cases h | skip
      exact s_and (fun e l he hm => (allEs es e he W C X G).1 l hm) (and2 h).2, fun x h => by
      unfold mtE at h
      cases x <;> first | cases h | skip
      rename_i q _ _
      cases q <;> first | cases h | skip
      exact (t_and (fun e l he hm => (allEs es e he W C X G).2.1 l hm) (and2 h).2).pt, fun x tg h => by
      unfold mtE at h
      cases x <;> first | cases h | skip
      rename_i q _ _
      cases q <;> first | cases h | skip
      all_goals (simp [tgM_isI] at h)⟩
  | .or es => fun W C X G => ⟨fun x h => by
      unfold mtE at h
      cases x <;> first | cases h | skip
      rename_i q _ _
      cases q <;> first | cases h | skip
      exact s_or (fun e l he hm => (allEs es e he W C X G).1 l hm) (and2 h).2, fun x h => by
      unfold mtE at h
      cases x <;> first | cases h | skip
      rename_i q _ _
      cases q <;> first | cases h | skip
      exact (t_or (fun e l he hm => (allEs es e he W C X G).2.1 l hm) (and2 h).2).pt, fun x tg h => by
      unfold mtE at h
      cases x <;> first | cases h | skip
      rename_i q _ _
      cases q <;> first | cases h | skip
      all_goals (simp [tgM_isI] at h)⟩
  | .cmp c a b => fun W C X G => ⟨fun x h => (s_cmp G (allE a W C X G).1 (allE b W C X G).1 h).1, fun x h => (s_cmp G (allE a W C X G).1 (allE b W C X G).1 h).2, fun x tg h => pi_val (s_cmp G (allE a W C X G).1 (allE b W C X G).1 h).1⟩
  | .chn c d a b g => fun W C X G => ⟨fun x h => (s_chn G (allE a W C X G).1 (allE b W C X G).1 (allE g W C X G).1 h).1, fun x h => (s_chn G (allE a W C X G).1 (allE b W C X G).1 (allE g W C X G).1 h).2, fun x tg h => pi_val (s_chn G (allE a W C X G).1 (allE b W C X G).1 (allE g W C X G).1 h).1⟩
  | .ite c a b => ok3_plain (fun C x h => by unfold mtE at h; cases x <;> first | cases h | skip; all_goals (simp at h)) fun W C X m G x h => s_ite (allE c W C X G).2.1 (allE a W C X G).1 (allE b W C X G).1 h
  | .tup es => ok3_plain (fun C x h => by unfold mtE at h; cases x <;> first | cases h | rfl) fun W C X m G x h => s_tup (fun e he => (allEs es e he W C X G).1) h
  | .lst es => ok3_plain (fun C x h => by unfold mtE at h; cases x <;> first | cases h | rfl) fun W C X m G x h => s_lst (fun e he => (allEs es e he W C X G).1) h
  | .tupx fs es => ok3_plain (fun C x h => by unfold mtE at h; cases x <;> first | cases h | rfl) fun W C X m G x h => s_tupx G.calm (fun e he => (allEs es e he W C X G).1) h
  | .lstx fs es => ok3_plain (fun C x h => by unfold mtE at h; cases x <;> first | cases h | rfl) fun W C X m G x h => s_lstx G.calm (fun e he => (allEs es e he W C X G).1) h
  | .fn f es => ok3_plain (fun C x h => by unfold mtE at h; cases x <;> first | cases h | rfl) fun W C X m G x h => s_fn G (fun e he => (allEs es e he W C X G).1) h
  | .fnk f es ns p => ok3_plain (fun C x h => by unfold mtE at h; cases x <;> first | cases h | rfl) fun W C X m G x h => s_fnk G (fun e he => (allEs es e he W C X G).1) h
  | .m f a es => ok3_plain (fun C x h => by unfold mtE at h; cases x <;> first | cases h | rfl) fun W C X m G x h => s_m (allE a W C X G).1 (fun e he => (allEs es e he W C X G).1) h
  | .b1 f a => ok3_plain (fun C x h => by unfold mtE at h; cases x <;> first | cases h | rfl) fun W C X m G x h => s_b1 G (allE a W C X G).1 h
  | .b2 f a b => ok3_plain (fun C x h => by unfold mtE at h; cases x <;> first | cases h | rfl) fun W C X m G x h => s_b2 G (allE a W C X G).1 (allE b W C X G).1 h
  | .bq f a => ok3_plain (fun C x h => by unfold mtE at h; cases x <;> first | cases h | rfl) fun W C X m G x h => s_bq G (allE a W C X G).1 h
  | .rng es => fun W C X G => ⟨fun x h => by
      simp only [mtE] at h
      split at h <;> first | cases h | skip
      all_goals (simp [Md.isI] at h), fun x h => by
      simp only [mtE] at h
      split at h <;> first | cases h | skip
      all_goals (simp [Md.isI] at h), fun x tg h => pi_rng G (fun e he => (allEs es e he W C X G).1) h⟩
  | .zip a b => fun W C X G => ⟨fun x h => by
      simp only [mtE] at h
      split at h <;> first | cases h | skip
      all_goals (simp at h), fun x h => by
      simp only [mtE] at h
      split at h <;> first | cases h | skip
      all_goals (simp at h), fun x tg h => by
      by_cases ht : ∃ es kk p, tg = .Tuple es kk p
      · obtain ⟨es, kk, p, rfl⟩ := ht
        exact pi_zips G (allE a W C X G).1 (allE b W C X G).1 h
      · have e : tgM tg = .i := by cases tg <;> first | rfl | exact absurd ⟨_, _, _, rfl⟩ ht
        rw [e] at h
        simp only [mtE] at h
        split at h <;> first | cases h | skip
        all_goals (simp at h)⟩
  | .enu a => fun W C X G => ⟨fun x h => by
      simp only [mtE] at h
      split at h <;> first | cases h | skip
      all_goals (simp at h), fun x h => by
      simp only [mtE] at h
      split at h <;> first | cases h | skip
      all_goals (simp at h), fun x tg h => by
      by_cases ht : ∃ es kk p, tg = .Tuple es kk p
      · obtain ⟨es, kk, p, rfl⟩ := ht
        exact pi_enus G (allE a W C X G).1 h
      · have e : tgM tg = .i := by cases tg <;> first | rfl | exact absurd ⟨_, _, _, rfl⟩ ht
        rw [e] at h
        simp only [mtE] at h
        split at h <;> first | cases h | skip
        all_goals (simp at h)⟩
  | .lrg es => ok3_plain (fun C x h => by unfold mtE at h; cases x <;> first | cases h | rfl) fun W C X m G x h => s_lrg G (fun e he => (allEs es e he W C X G).1) h
  | .idx a b => ok3_plain (fun C x h => by unfold mtE at h; cases x <;> first | cases h | rfl) fun W C X m G x h => s_idx G (allE a W C X G).1 (allE b W C X G).1 h
  | .slc a lo hi => ok3_plain (fun C x h => by unfold mtE at h; cases x <;> first | cases h | rfl) fun W C X m G x h => s_slc (allE a W C X G).1 (allE lo W C X G).1 (allE hi W C X G).1 h
  | .rev a => ok3_plain (fun C x h => by unfold mtE at h; cases x <;> first | cases h | rfl) fun W C X m G x h => s_rev (allE a W C X G).1 h
  | .lc elt tg it own => ok3_plain (fun C x h => by unfold mtE at h; cases x <;> first | cases h | rfl) fun W C X m G x h => s_lc G (fun l tg' hl => (allE it W C X G).2.2 l tg' hl) (fun C' X' G' => (allE elt WF C' X' G').1) h
  | .lcf elt c tg it own => ok3_plain (fun C x h => by unfold mtE at h; cases x <;> first | cases h | rfl) fun W C X m G x h => s_lcf G (fun l tg' hl => (allE it W C X G).2.2 l tg' hl) (fun C' X' G' => (allE c WF C' X' G').2.1) (fun C' X' G' => (allE elt WF C' X' G').1) h
  | .dnw => ok3_plain (fun C x h => by unfold mtE at h; cases x <;> first | cases h | rfl) fun W C X m G x h => s_dnw h
  | .dct a => ok3_plain (fun C x h => by unfold mtE at h; cases x <;> first | cases h | rfl) fun W C X m G x h => s_dct G (allE a W C X G).1 h
  | .dg2 a b c => ok3_plain (fun C x h => by unfold mtE at h; cases x <;> first | cases h | rfl) fun W C X m G x h => s_dg2 G (allE a W C X G).1 (allE b W C X G).1 (allE c W C X G).1 h
  | .dsd a b c => ok3_plain (fun C x h => by unfold mtE at h; cases x <;> first | cases h | rfl) fun W C X m G x h => s_dsd (allE a W C X G).1 (allE b W C X G).1 (allE c W C X G).1 h
  | .fld a c f => ok3_plain (fun C x h => by unfold mtE at h; cases x <;> first | cases h | rfl) fun W C X m G x h => s_fld G (allE a W C X G).1 h
  | .mk f es => ok3_plain (fun C x h => by unfold mtE at h; cases x <;> first | cases h | rfl) fun W C X m G x h => s_mk G (fun e he => (allEs es e he W C X G).1) h
  | .mt f c n a es => ok3_plain (fun C x h => by unfold mtE at h; cases x <;> first | cases h | rfl) fun W C X m G x h => s_mt G (allE a W C X G).1 (fun e he => (allEs es e he W C X G).1) h
  | .dnc f c neg a b => fun W C X G => ⟨fun x h => (s_dnc G (allE a W C X G).1 (allE b W C X G).1 h).1, fun x h => (s_dnc G (allE a W C X G).1 (allE b W C X G).1 h).2, fun x tg h => pi_val (s_dnc G (allE a W C X G).1 (allE b W C X G).1 h).1⟩
  | .itm kk a => fun W C X G => ⟨fun x h => by
      simp only [mtE] at h
      split at h <;> first | cases h | skip
      cases kk <;> simp [Md.isI] at h, fun x h => by
      simp only [mtE] at h
      split at h <;> first | cases h | skip
      cases kk <;> simp [Md.isI] at h, fun x tg h => pi_itms G (allE a W C X G).1 (fun e => by cases tg <;> first | (cases e; done) | exact ⟨_, _, _, rfl⟩) h⟩
  | .srk a i => ok3_plain (fun C x h => by unfold mtE at h; cases x <;> first | cases h | rfl) fun W C X m G x h => s_srk G (allE a W C X G).1 h
  | .lset a => ok3_plain (fun C x h => by unfold mtE at h; cases x <;> first | cases h | rfl) fun W C X m G x h => s_lset G (allE a W C X G).1 h
  | .dc kx vx c tg it own => ok3_plain (fun C x h => by unfold mtE at h; cases x <;> first | cases h | rfl) fun W C X m G x h => s_dc G (fun l tg' hl => (allE it W C X G).2.2 l tg' hl) (fun C' X' G' => (allE c WF C' X' G').2.1) (fun C' X' G' => (allE kx WF C' X' G').1) (fun C' X' G' => (allE vx WF C' X' G').1) h
  | .irg a lo hi => fun W C X G => ⟨fun x h => (s_irg G (allE a W C X G).1 (allE lo W C X G).1 (allE hi W C X G).1 h).1, fun x h => (s_irg G (allE a W C X G).1 (allE lo W C X G).1 (allE hi W C X G).1 h).2, fun x tg h => pi_val (s_irg G (allE a W C X G).1 (allE lo W C X G).1 (allE hi W C X G).1 h).1⟩
  | .rep es b => ok3_plain (fun C x h => by unfold mtE at h; cases x <;> first | cases h | rfl) fun W C X m G x h => s_rep (fun e he => (allEs es e he W C X G).1) (allE b W C X G).1 h
  | .ise a c => ok3_plain (fun C x h => by unfold mtE at h; cases x <;> first | cases h | rfl) fun W C X m G x h => s_ise G (allE a W C X G).1 h
  | .exv a => ok3_plain (fun C x h => by unfold mtE at h; cases x <;> first | cases h | rfl) fun W C X m G x h => s_exv G (allE a W C X G).1 h
  | .cll i => ok3_plain (fun C x h => by unfold mtE at h; cases x <;> first | cases h | rfl) fun W C X m G x h => s_cll G h
  | .fwd f i es => ok3_plain (fun C x h => by unfold mtE at h; cases x <;> first | cases h | rfl) fun W C X m G x h => s_fwd G (fun e he => (allEs es e he W C X G).1) h
  | .fnl f n cs es => ok3_plain (fun C x h => by unfold mtE at h; cases x <;> first | cases h | rfl) fun W C X m G x h => s_fnl G (fun e he => (allEs es e he W C X G).1) h
  | .prp f c n a => ok3_plain (fun C x h => by unfold mtE at h; cases x <;> first | cases h | rfl) fun W C X m G x h => s_prp G (allE a W C X G).1 h
  | .dsp es => fun W C X G => ⟨fun x h => (by unfold mtE at h; cases h), fun x h => (by unfold mtE at h; cases h), fun x tg h => (by unfold mtE at h; cases h)⟩
  | .dead => fun W C X G => ⟨fun x _ => s_dead, fun x _ => t_dead, fun x tg _ => i_dead⟩
theorem allEs : ∀ (es : Es) (e : E), EsHas es e → Ok3 T xc o k e
  | .nil, e, h => nomatch h
  | .cons a r, e, h => match h with
    | .head => allE a
    | .tail h => allEs r e h
end
end
end Mi

/-! # Statements -/
namespace Mi
open PySem L2
section
variable {T : Tab} {xc : XcT} {o : Orc} {W : WX} {k : Nat} {C : SC} {X : Cx}
theorem rdP_of_rdE {K : PySem.W.Frag} {e : E} {σ : St} {H : Hp} {Q : VK} : rdE K xc o W e σ H Q → rdP K xc o W e σ H Q := by
  rintro ⟨φ, μ, env, s, rs, re, h⟩
  refine ⟨φ, μ, env, s, rs, re, Fin.bind (r := ev o e env s) h fun p s' φ' μ' H' v l rs' rl h' => ?_⟩
  cases p with
  | val d => exact h'.here rs' rl
  | new xs =>
    obtain ⟨a, vs, e1, h1, n1, n2, r⟩ := rl
    obtain ⟨p1, p2⟩ := rs'.place h1 n1 n2 r
    exact h' _ _ _ _ Le.grow p1 (e1 ▸ mk_loc p2)
  | rg xs => exact rl.elim
  | it xs => exact rl.elim
/-- a value is bound: what is read of the rest -/
theorem asg_rd {K : PySem.W.Frag} {e : E} {tg : Tg} {D : Ends} {σ : St} {H : Hp} (h : rdS K xc o W (.asg tg e) D σ H) : rdE K xc o W e σ H fun v H1 => gB xc K tg v σ H1 D.nx := by
  obtain ⟨φ, μ, env, s, rs, re, h⟩ := h
  simp only [evS] at h
  refine ⟨φ, μ, env, s, rs, re, FinS.bind re h fun d s' φ' μ' H' v l rs' rd h' => ?_⟩
  cases q : bindTg tg d env with
  | none => rw [q] at h'; exact h'.elim
  | some env' =>
    rw [q] at h'
    exact ⟨φ', μ', env, d, env', re.up l, rd, q, fun σ' re' _ => h' φ' μ' H' σ' Le.refl rs' re'⟩
theorem gB_nm {K : PySem.W.Frag} {i : Nat} {v : V} {σ : St} {H : Hp} {Q : St → Hp → Prop} (n0 : xc.th ≠ none → i ≠ 0) (h : gB xc K (.nm i) v σ H Q) : gName i v σ H Q := by
  obtain ⟨φ, μ, env, d, env', re, rd, e, q⟩ := h
  cases e
  exact q _ (re.set n0 rd) fun j hj => List.getElem?_set_ne fun (z : i = j) => hj (by subst z; exact List.mem_cons_self)
theorem swapped_none {tg e : Expr} {env : PySem.Env} (h : (∀ ts k p, tg ≠ .Tuple ts k p) ∧ (∀ ts p, tg ≠ .List ts p) ∨ ∀ vs k p, e ≠ .Tuple vs k p) : swappedStores [tg] e env = pure none := by
  rcases h with ⟨h1, h2⟩ | h
  · cases tg <;> first | rfl | exact (h1 _ _ _ rfl).elim | exact (h2 _ _ rfl).elim
  · cases e <;> first | exact (h _ _ _ rfl).elim | (cases tg <;> rfl)
theorem tg_each {tg : Tg} {e : Expr} {env : PySem.Env} (h : mtTg C tg e = true) : (assignEach [e] env).map (·.2) = [assign e env] := by
  cases tg <;> cases e <;> first | (unfold mtTg at h; cases h; done) | rfl
theorem swaps_cell {e : Expr} {y : Str} {py : Pos} {l : Nat} {env : PySem.Env} (h : env.scope.names.lookup y = some .cell) : swapsWithSole [.Name y py] e l env = pure false := by
  have ky : env.kindOf y = some .cell := h
  have no : (some NameKind.cell == some NameKind.local) = false := by decide
  show swapsWith e (some (.Name y py)) l env = pure false
  cases e <;> first | rfl | (unfold swapsWith; simp only [ky, no, Bool.and_false, Bool.false_and])
theorem s_asg {tg : Tg} {e : E} {st : Stmt} (G : Good T xc o W k C X) (h : mtS T C (.asg tg e) st = true) : PS X st (rdS X.K xc o W (.asg tg e)) := by
  simp only [mtS] at h
  split at h <;> first | cases h | skip
  rename_i tg' e' pos
  obtain ⟨h1, h2, h3⟩ := and3 h
  have he := (allE (T := T) (xc := xc) (o := o) (k := k) e W C X G).1 e' h1
  have hN : X.N.Nodup := by rw [G.N]; exact G.nd
  have tg0_ : xc.th ≠ none → ∀ i, tg = .nm i → i ≠ 0 := fun z i e => by
    subst e
    cases tg' <;> first | (unfold mtTg at h2; cases h2; done) | exact nmIs_0 h2 (G.th z)
  split at h3
  · rename_i i y py elt gs scope lp
    rcases Bool.or_eq_true_iff.mp h3 with hcell | h3
    · have hsw : swapsWithSole [.Name y py] (.ListComp elt gs scope lp) pos.line X.env = pure false := swaps_cell (by rw [G.sc]; exact of_decide_eq_true hcell)
      exact PS.imp (ps_asg (to_E he) (pg_tg G.n h2) hsw (swapped_none (.inl ⟨(fun _ _ _ z => (nomatch z)), (fun _ _ z => (nomatch z))⟩)) (tg_each h2)) fun D σ H hh => asg_rd hh
    simp only [Bool.and_eq_true, Bool.not_eq_true'] at h3
    obtain ⟨⟨⟨⟨c1, c2⟩, c3⟩, c4⟩, c5⟩ := h3
    have c1 := of_decide_eq_true c1
    have c2 := of_decide_eq_true c2
    have c3 : C.sc.names.lookup y = some .local := of_decide_eq_true c3
    cases e <;> first | (simp only [mtE] at h1; cases h1; done) | skip
    · rename_i elt0 tg0 it0 own0
      simp only [mtE] at h1
      split at h1 <;> first | cases h1 | skip
      rename_i elt' tg' it' scope' pos' heq
      injection heq with q1 q2 q3 q4
      subst q1 q2 q3 q4
      simp only [Bool.and_eq_true] at h1
      obtain ⟨⟨⟨⟨⟨h1, h2⟩, h3⟩, h4⟩, h5⟩, h6⟩ := h1
      have hown : (own0.map fun i => (C.N.getD i "", i)).map (·.2) = own0 := by
        rw [List.map_map]
        exact List.map_id' own0
      have ok : BlkOk X.N X.env.scope scope (own0.map fun i => (C.N.getD i "", i)) := by
        rw [G.N, G.sc]
        exact blkOk_by h1
      have hyl : X.env.scope.names.lookup y = some .local := by rw [G.sc]; exact c3
      refine PS.imp (ps_setLc (g := gB xc X.K tg0) (tt := tYes) (te := rdE X.K xc o WF elt0) (i := i) G.calm hN (by rw [G.N]; exact c2) hyl (sw_true (by rw [G.sc]; exact c1) hyl c4 c5)
        ((allE (T := T) (xc := xc) (o := o) (k := k) it0 W C X G).2.2 it' tg' h2) ok (fun s H A cl fp => pg_tg (Good.n (Good.blk G)) h4) (fun _ _ _ _ _ => pts_nil)
        (fun s H A cl fp => to_E ((allE (T := T) (xc := xc) (o := o) (k := k) elt0 WF _ _ (Good.blk G)).1 _ h6)) (fun x => folded_none h3)) fun D σ H hh => ?_
      rw [hown]
      have h7 := rdP_of_rdE (asg_rd hh)
      refine lc_rd (tgIn_1 h5) (fun z => tgIn_2 h5 (G.th z)) ?_
      obtain ⟨φ, μ, env, s, rs, re, h8⟩ := h7
      refine ⟨φ, μ, env, s, rs, re, ?_⟩
      revert h8
      generalize ev o _ env s = r
      intro h8
      cases r with
      | no => exact h8
      | ex c d s' => exact h8
      | ok p s' => exact fun φ' μ' H' b l rs' rl => gB_nm (fun z => tg0_ z _ rfl) (h8 φ' μ' H' b l rs' rl)
    · rename_i elt0 c0 tg0 it0 own0
      simp only [mtE] at h1
      split at h1 <;> first | cases h1 | skip
      rename_i elt' tg' it' c' scope' pos' heq
      injection heq with q1 q2 q3 q4
      subst q1 q2 q3 q4
      simp only [Bool.and_eq_true] at h1
      obtain ⟨⟨⟨⟨⟨⟨h1, h2⟩, h3⟩, h4⟩, h5⟩, h7'⟩, h6⟩ := h1
      have hown : (own0.map fun i => (C.N.getD i "", i)).map (·.2) = own0 := by
        rw [List.map_map]
        exact List.map_id' own0
      have ok : BlkOk X.N X.env.scope scope (own0.map fun i => (C.N.getD i "", i)) := by
        rw [G.N, G.sc]
        exact blkOk_by h1
      have hyl : X.env.scope.names.lookup y = some .local := by rw [G.sc]; exact c3
      refine PS.imp (ps_setLc (g := gB xc X.K tg0) (tt := rdT X.K xc o WF c0) (te := rdE X.K xc o WF elt0) (i := i) G.calm hN (by rw [G.N]; exact c2) hyl (sw_true (by rw [G.sc]; exact c1) hyl c4 c5)
        ((allE (T := T) (xc := xc) (o := o) (k := k) it0 W C X G).2.2 it' tg' h2) ok (fun s H A cl fp => pg_tg (Good.n (Good.blk G)) h4) (fun s H A cl fp => pts_one ((allE (T := T) (xc := xc) (o := o) (k := k) c0 WF _ _ (Good.blk G)).2.1 c' h7'))
        (fun s H A cl fp => to_E ((allE (T := T) (xc := xc) (o := o) (k := k) elt0 WF _ _ (Good.blk G)).1 _ h6)) (fun x => folded_none h3)) fun D σ H hh => ?_
      rw [hown]
      have h7 := rdP_of_rdE (asg_rd hh)
      refine lcf_rd (tgIn_1 h5) (fun z => tgIn_2 h5 (G.th z)) ?_
      obtain ⟨φ, μ, env, s, rs, re, h8⟩ := h7
      refine ⟨φ, μ, env, s, rs, re, ?_⟩
      revert h8
      generalize ev o _ env s = r
      intro h8
      cases r with
      | no => exact h8
      | ex c d s' => exact h8
      | ok p s' => exact fun φ' μ' H' b l rs' rl => gB_nm (fun z => tg0_ z _ rfl) (h8 φ' μ' H' b l rs' rl)
    · exact ⟨fun pins s σ H D I h => by
        obtain ⟨φ, μ, env, st, rs, re, h⟩ := h
        simp only [evS, evv, ev, R.bind_no, R.toS_no] at h
        exact h.elim⟩
  · rename_i i y py kx' vx' gs scope lp
    rcases Bool.or_eq_true_iff.mp h3 with hcell | h3
    · have hsw : swapsWithSole [.Name y py] (.DictComp kx' vx' gs scope lp) pos.line X.env = pure false := swaps_cell (by rw [G.sc]; exact of_decide_eq_true hcell)
      exact PS.imp (ps_asg (to_E he) (pg_tg G.n h2) hsw (swapped_none (.inl ⟨(fun _ _ _ z => (nomatch z)), (fun _ _ z => (nomatch z))⟩)) (tg_each h2)) fun D σ H hh => asg_rd hh
    simp only [Bool.and_eq_true, Bool.not_eq_true'] at h3
    obtain ⟨⟨⟨⟨c1, c2⟩, c3⟩, c4⟩, c5⟩ := h3
    have c1 := of_decide_eq_true c1
    have c2 := of_decide_eq_true c2
    have c3 : C.sc.names.lookup y = some .local := of_decide_eq_true c3
    cases e <;> first | (simp only [mtE] at h1; cases h1; done) | skip
    · exact ⟨fun pins s σ H D I h => by
        obtain ⟨φ, μ, env, st, rs, re, h⟩ := h
        simp only [evS, evv, ev, R.bind_no, R.toS_no] at h
        exact h.elim⟩
    · rename_i kx vx c0 tg0 it0 own0
      obtain ⟨kx2, vx2, tg', it', ifs, scope', pos', heq, q2, q3, ok, q4, q5, q6, q8, hp⟩ := dc_parts G (fun C' X' G' => (allE (T := T) (xc := xc) (o := o) (k := k) c0 WF C' X' G').2.1) h1
      injection heq with e1 e2 e3 e4 e5
      subst e1 e2 e3 e4 e5
      have hown : (own0.map fun i => (C.N.getD i "", i)).map (·.2) = own0 := by
        rw [List.map_map]
        exact List.map_id' own0
      have hyl : X.env.scope.names.lookup y = some .local := by rw [G.sc]; exact c3
      refine PS.imp (ps_setDc (g := gB xc X.K tg0) (tt := rdT X.K xc o WF c0) (tk := rdE X.K xc o WF kx) (tv := rdE X.K xc o WF vx) (i := i) G.calm hN (by rw [G.N]; exact c2) hyl (swD_true (by rw [G.sc]; exact c1) hyl c4 c5)
        ((allE (T := T) (xc := xc) (o := o) (k := k) it0 W C X G).2.2 it' tg' q2) ok (fun s H A cl fp => pg_tg (Good.n (Good.blk G)) q4) hp
        (fun s H A cl fp => to_E ((allE (T := T) (xc := xc) (o := o) (k := k) kx WF _ _ (Good.blk G)).1 _ q6)) (fun s H A cl fp => to_E ((allE (T := T) (xc := xc) (o := o) (k := k) vx WF _ _ (Good.blk G)).1 _ q8)) (fun x => folded_none q3)) fun D σ H hh => ?_
      rw [hown]
      have h7 := rdP_of_rdE (asg_rd hh)
      refine dc_rd (tgIn_1 q5) (fun z => tgIn_2 q5 (G.th z)) ?_
      obtain ⟨φ, μ, env, s, rs, re, h8⟩ := h7
      refine ⟨φ, μ, env, s, rs, re, ?_⟩
      revert h8
      generalize ev o _ env s = r
      intro h8
      cases r with
      | no => exact h8
      | ex c d s' => exact h8
      | ok p s' => exact fun φ' μ' H' b l rs' rl => gB_nm (fun z => tg0_ z _ rfl) (h8 φ' μ' H' b l rs' rl)
  · cases h3
  · cases h3
  · rename_i n1 n3 n4 n2
    have hsw : swapsWithSole [tg'] e' pos.line X.env = pure false := swaps_none h3
    have hst : swappedStores [tg'] e' X.env = pure none := by
      cases tg with
      | nm i =>
        cases tg' <;> first | (unfold mtTg at h2; cases h2; done) | skip
        exact swapped_none (.inl ⟨fun _ _ _ z => (nomatch z), fun _ _ z => (nomatch z)⟩)
      | tp is =>
        refine swapped_none (.inr fun vs kk p z => ?_)
        subst z
        exact n1 is vs kk p rfl rfl
      | tn ts =>
        refine swapped_none (.inr fun vs kk p z => ?_)
        subst z
        exact n3 ts vs kk p rfl rfl
    exact PS.imp (ps_asg (to_E he) (pg_tg G.n h2) hsw hst (tg_each h2)) fun D σ H hh => asg_rd hh
/-- a, b, .. = a new list -/
theorem s_unl {is : List Nat} {e : E} {st : Stmt} (G : Good T xc o W k C X) (h : mtS T C (.unl is e) st = true) : PS X st (rdS X.K xc o W (.unl is e)) := by
  simp only [mtS] at h
  split at h <;> first | cases h | skip
  rename_i ts kk pp elt gs scope lp pos
  obtain ⟨h1, h2⟩ := and2 h
  have he := (allE (T := T) (xc := xc) (o := o) (k := k) e W C X G).1 _ h1
  have hsw : swapsWithSole [.Tuple ts kk pp] (.ListComp elt gs scope lp) pos.line X.env = pure false := rfl
  have is0 : xc.th ≠ none → ∀ i ∈ is, i ≠ 0 := fun z => mtNms_0 (show mtNms C is ts = true from h2) (G.th z)
  have h2' : mtNms C is ts = true := by unfold mtTg at h2; exact h2
  obtain ⟨g1, g2, g3, _⟩ := pgs_nms G.n h2'
  refine PS.imp (ps_asg he (pg_lst G.calm g1 g2 g3) hsw (swapped_none (.inr (fun _ _ _ z => (nomatch z)))) (tg_each h2)) fun D σ H hh => ?_
  obtain ⟨φ, μ, env, s, rs, re, h⟩ := hh
  simp only [evS] at h
  refine ⟨φ, μ, env, s, rs, re, ?_⟩
  revert h
  generalize ev o e env s = r
  intro h
  cases r with
  | no => exact h.elim
  | ex c d s' => exact fun φ' μ' H' cls dx l rs' rx => h φ' μ' H' _ cls dx l rs' (re.up l) rx
  | ok p s' =>
    intro φ' μ' H' b l rs' rl
    cases p with
    | new xs =>
      obtain ⟨a, vs, rfl, e1, _, _, rl⟩ := rl
      cases q : setAll env is xs with
      | none =>
        simp only [R.toS_ok, q] at h
        exact h.elim
      | some env' =>
        simp only [R.toS_ok, q] at h
        exact ⟨a, vs, rfl, .inl (.inl e1), by rw [← rl.length]; exact setAll_len q, setAll_rel is0 (re.up l) rl q fun σ' re' _ => h φ' μ' H' σ' l rs' re'⟩
    | val d => exact h.elim
    | rg xs => exact h.elim
    | it src => exact h.elim
theorem sub_assign {o i : Expr} {pos : Pos} {env : PySem.Env} (h : notSlice i = true) : ∀ v, assign (.Subscript o i pos) env v = (do
      let ov ← holding [v] (eval o env)
      let iv ← holding [v, ov] (eval i env)
      standAt pos
      holding [v, ov, iv] (setItem ov iv v)
      release [v, ov, iv] []) := by
  intro v
  cases i <;> first | rfl | cases h
theorem PSet.or {t u : TSet} (h : PSet X t) (g : PSet X u) : PSet X fun x y v H Q => t x y v H Q ∨ u x y v H Q := by
  intro pins s σ H x y v ov iv w Q I rx ry rv q
  rcases q with q | q
  · exact h pins s σ H x y v ov iv w Q I rx ry rv q
  · exact g pins s σ H x y v ov iv w Q I rx ry rv q
theorem set_dict (hu : X.A.units + 1 < cLine) : PSet X fun x y v H Q => ∃ a H4, x = .ref a ∧ DPut H a y v H4 ∧ Q H4 := by
  intro pins s σ H x y v ov iv w Q I rx ry rv q
  obtain ⟨a, H4, rfl, g, q⟩ := q
  cases rx
  exact d_setItem hu I g ry rv fun s' I' => ⟨H4, I', q⟩
theorem s_sto {a i e : E} {st : Stmt} (G : Good T xc o W k C X) (h : mtS T C (.sto a i e) st = true) : PS X st (rdS X.K xc o W (.sto a i e)) := by
  simp only [mtS] at h
  split at h <;> first | cases h | skip
  rename_i a' i' sp e' pos
  simp only [Bool.and_eq_true] at h
  obtain ⟨⟨⟨⟨h1, h2⟩, h3⟩, h4⟩, h5⟩ := h
  have he := to_E ((allE (T := T) (xc := xc) (o := o) (k := k) e W C X G).1 e' h1)
  have ha := to_E ((allE (T := T) (xc := xc) (o := o) (k := k) a W C X G).1 a' h2)
  have hi := to_E ((allE (T := T) (xc := xc) (o := o) (k := k) i W C X G).1 i' h3)
  have hsw : swapsWithSole [a'.Subscript i' sp] e' pos.line X.env = pure false := by unfold swapsWithSole; exact swaps_none h4
  refine PS.imp (ps_asg he (pg_sub ha hi (PSet.or set_list (set_dict (by have := G.room.un; omega))) (sub_assign h5)) hsw (swapped_none (.inl ⟨fun _ _ _ z => (nomatch z), fun _ _ z => (nomatch z)⟩)) rfl) fun D σ H => ?_
  rintro ⟨φ, μ, env, s, rs, re, h⟩
  simp only [evS] at h
  refine ⟨φ, μ, env, s, rs, re, FinS.bind re h fun d s1 φ1 μ1 H1 v l1 rs1 rd1 h1 => ?_⟩
  refine ⟨φ1, μ1, env, s1, rs1, re.up l1, FinS.bind (re.up l1) h1 fun x s2 φ2 μ2 H2 v2 l2 rs2 rd2 h2 => ?_⟩
  refine ⟨φ2, μ2, env, s2, rs2, (re.up l1).up l2, FinS.bind ((re.up l1).up l2) h2 fun y s3 φ3 μ3 H3 v3 l3 rs3 rd3 h3 => ?_⟩
  cases q : putR x y d s3 with
  | none => rw [q] at h3; exact h3.elim
  | some s4 =>
  rw [q] at h3
  unfold putR at q
  split at q <;> first | (cases q; done) | skip
  rename_i n
  obtain ⟨p, rfl, hp⟩ := relD_loc rd2
  have hp' := get_pre l3.pl hp
  have hd : RelD X.K φ3 μ3 H3 d v := (rd1.up l2).up l3
  have re3 := ((re.up l1).up l2).up l3
  split at q <;> first | (cases q; done) | skip
  · rename_i xs hx
    split at q <;> first | (cases q; done) | skip
    rename_i j
    split at q <;> first | (cases q; done) | skip
    rename_i hj
    cases q
    obtain ⟨vs, g1, g2⟩ := rs3.cell n _ p hx hp'
    have ei := relD_int rd3
    subst ei
    have lw := Le.write (o := .lst (vs.set j.toNat v)) rs3 hp' g1 (fun _ z => (nomatch z)) (fun _ _ z => (nomatch z))
    refine .inl ⟨p, vs, j, j.toNat, rfl, rfl, g1, ?_, ?_⟩
    · unfold ixN
      rw [if_pos hj.1, if_pos (by have := g2.length; omega)]
    · have hc : RelC X.K φ3 μ3 (upd H3 p (.lst (vs.set j.toNat v))) (.lst (xs.set j.toNat d)) p := ⟨_, upd_same, (g2.set hd j.toNat).up lw⟩
      exact h3 φ3 μ3 _ σ lw (RelS.write rs3 hp' g1 (fun _ z => (nomatch z)) (fun _ _ z => (nomatch z)) hc) (re3.up lw)
  · rename_i kvs hx
    split at q <;> first | (cases q; done) | skip
    rename_i ky hk
    split at q <;> first | (cases q; done) | skip
    rename_i hj
    cases q
    obtain ⟨ws, g1, g2⟩ := rs3.cell n _ p hx hp'
    have ei := key_rel rd3 hk
    have lw := Le.write (o := .dK (putK ws ky v)) rs3 hp' g1 (fun _ z => (nomatch z)) (fun _ _ z => (nomatch z))
    have hc : RelC X.K φ3 μ3 (upd H3 p (.dK (putK ws ky v))) (.dk (kPut kvs ky d)) p := ⟨_, upd_same, (g2.put ky hd).up lw⟩
    exact .inr ⟨p, _, rfl, .inl ⟨ws, ky, g1, ei, by rw [← g2.length]; exact Nat.lt_of_lt_of_le hj (by decide), rfl⟩, h3 φ3 μ3 _ σ lw (RelS.write rs3 hp' g1 (fun _ z => (nomatch z)) (fun _ _ z => (nomatch z)) hc) (re3.up lw)⟩
/-! ### fields -/
/-- x.f = v -/
theorem fput_rel {K : PySem.W.Frag} {φ : Fz} {μ : List Addr} {H : Hp} {s s' : Sto} {c f : Str} {x d : D} {u v : V} {C0 : Addr} (c1 : ClsAt K c C0) (rs : RelS K φ μ H s) (rx : RelD K φ μ H x u) (rd : RelD K φ μ H d v) (h : fputR c f x d s = some s') :
    ∃ p dx ws, u = .ref p ∧ H p = some (.ins C0 dx ws) ∧ ws.length < 1000 ∧ Le K φ μ H φ μ (upd H p (.ins C0 dx (putF f v ws))) ∧ RelS K φ μ (upd H p (.ins C0 dx (putF f v ws))) s' := by
  unfold fputR at h
  split at h <;> first | (cases h; done) | skip
  rename_i n
  split at h <;> first | (cases h; done) | skip
  rename_i c' fs hx
  split at h <;> first | (cases h; done) | skip
  rename_i hc
  cases h
  obtain ⟨p, rfl, hp⟩ := relD_loc rx
  obtain ⟨C1, dx, ws, g1, g0, g2⟩ := rs.cell n _ p hx hp
  rw [hc.1] at g0
  have ec := g0.one c1
  subst ec
  have lw := Le.write (o := .ins C1 dx (putF f v ws)) rs hp g1 (fun _ z => (nomatch z)) (fun _ _ z => (nomatch z))
  exact ⟨p, dx, ws, rfl, g1, by rw [← g2.length]; exact hc.2, lw, RelS.write rs hp g1 (fun _ z => (nomatch z)) (fun _ _ z => (nomatch z)) ⟨C1, dx, _, upd_same, g0, (g2.fput rd f).up lw⟩⟩
theorem s_sfd {a e : E} {c f : Str} {st : Stmt} (G : Good T xc o W k C X) (h : mtS T C (.sfd a c f e) st = true) : PS X st (rdS X.K xc o W (.sfd a c f e)) := by
  simp only [mtS] at h
  split at h <;> first | cases h | skip
  rename_i ob n sp e' pos
  simp only [Bool.and_eq_true] at h
  obtain ⟨⟨⟨⟨h1, h2⟩, h3⟩, h4⟩, h5⟩ := h
  have e1 := of_decide_eq_true h1
  subst e1
  obtain ⟨C0, c1, c2, c3⟩ := G.fld c n (of_decide_eq_true h2)
  have he := to_E ((allE (T := T) (xc := xc) (o := o) (k := k) e W C X G).1 e' h3)
  have ha := to_E ((allE (T := T) (xc := xc) (o := o) (k := k) a W C X G).1 ob h4)
  refine PS.imp (ps_fld ha he (swaps_none h5)) fun D σ H => ?_
  rintro ⟨φ, μ, env, s, rs, re, h⟩
  simp only [evS] at h
  refine ⟨φ, μ, env, s, rs, re, FinS.bind re h fun d s1 φ1 μ1 H1 v l1 rs1 rd1 h1 => ?_⟩
  refine ⟨φ1, μ1, env, s1, rs1, re.up l1, FinS.bind (re.up l1) h1 fun x s2 φ2 μ2 H2 v2 l2 rs2 rd2 h2 => ?_⟩
  cases q : fputR c n x d s2 with
  | none => rw [q] at h2; exact h2.elim
  | some s3 =>
    rw [q] at h2
    obtain ⟨p, dx, ws, rfl, g1, g2, g3, g4⟩ := fput_rel c1 rs2 rd2 (rd1.up l2) q
    exact ⟨p, C0, dx, ws, rfl, g1, c2, c3, g2, h2 φ2 μ2 _ σ g3 g4 (((re.up l1).up l2).up g3)⟩
/-- a field as a target -/
theorem pg_att {ob : Expr} {n : Str} {pos : Pos} {to : TE} (ho : PE X ob to) : PG X (.Attribute ob n pos) (fun v σ H Q => to σ H fun x H1 => ∃ p C0 dx ws, x = .ref p ∧ H1 p = some (.ins C0 dx ws) ∧ Cls X.K C0 ∧ NoAttr X.K C0 n ∧ ws.length < 1000 ∧ Q σ (upd H1 p (.ins C0 dx (putF n v ws)))) := by
  refine ⟨fun pins s σ H v u Q I rv h => ?_⟩
  rw [arm_assign_Attribute]
  refine wpAny_bind (wpAny_holding (thn (ho.run pins s σ H _ I h) fun w s1 ⟨x, H1, I1, r1, p, C0, dx, ws, ex, g1, c2, c3, hl, q⟩ => ?_))
  subst ex
  obtain rfl : w = Value.ref p := r1
  refine wpAny_bind (wpAny_standAt (wpAny_bind (wpAny_holding (setattr_ok I1 g1 c2 c3 hl rv fun s2 I2 => ?_))))
  exact wpAny_release ⟨σ, _, I2, q⟩
theorem setAll2 {env env' : Env} {i j : Nat} {ds : List D} (h : setAll env [i, j] ds = some env') : ∃ a b, ds = [a, b] ∧ env' = (env.set i (some a)).set j (some b) := by
  match ds, h with
  | [], h => cases h
  | [a], h => cases h
  | [a, b], h => cases h; exact ⟨a, b, rfl, rfl⟩
  | _ :: _ :: _ :: _, h => cases h
theorem setAll3 {env env' : Env} {i j l : Nat} {ds : List D} (h : setAll env [i, j, l] ds = some env') : ∃ a b c, ds = [a, b, c] ∧ env' = ((env.set i (some a)).set j (some b)).set l (some c) := by
  match ds, h with
  | [], h => cases h
  | [a], h => cases h
  | [a, b], h => cases h
  | [a, b, c], h => cases h; exact ⟨a, b, c, rfl, rfl⟩
  | _ :: _ :: _ :: _ :: _, h => cases h
/-- the tuple is made, then taken apart -/
theorem par_gen {is : List Nat} {es : Es} {ts vs : List Expr} {k1 k2 : Nat} {p1 p2 pos : Pos} (G : Good T xc o W k C X) (h1 : mtEs T C es vs = true) (h2 : mtNms C is ts = true) (h3 : is.length ≤ 100) (h4 : swp C.sc ts vs = some none) :
    PS X (.Assign [.Tuple ts k1 p1] (.Tuple vs k2 p2) pos) (rdS X.K xc o W (.par is es)) := by
  have ht : PE X (.Tuple vs k2 p2) (rdP X.K xc o W (.tup es)) := (allE (T := T) (xc := xc) (o := o) (k := k) (.tup es) W C X G).1 _ (by simp only [mtE]; exact h1)
  have hg : PG X (.Tuple ts k1 p1) (gB xc X.K (.tp is)) := pg_tg (C := C) G.n (by unfold mtTg; exact h2)
  refine PS.imp (ps_asg ht hg rfl (swp_ok h4 G.sc) rfl) fun D σ H => ?_
  rintro ⟨φ, μ, env, s, rs, re, h⟩
  refine ⟨φ, μ, env, s, rs, re, ?_⟩
  simp only [evS] at h
  simp only [ev]
  revert h
  generalize evs o es env s = r
  intro h
  cases r with
  | no => exact h.elim
  | ex c d s' => exact fun φ' μ' H' cls dx l rs' rx => h φ' μ' H' σ cls dx l rs' (re.up l) rx
  | ok ds s' =>
    replace h : FinS X.K xc W φ μ H (match setAll env is ds with | some env' => .ok .nxt env' s' | none => .no) D := h
    cases q : setAll env is ds with
    | none => rw [q] at h; exact h.elim
    | some env' =>
      rw [q] at h
      have hl := setAll_len q
      simp only [R.bind_ok]
      rw [if_pos (by rw [hl]; exact Nat.le_trans h3 (by decide))]
      exact fun φ' μ' H' b l rs' rl => ⟨φ', μ', env, .tup ds, env', re.up l, rl, q, fun σ' re' _ => h φ' μ' H' σ' l rs' re'⟩
theorem s_par {is : List Nat} {es : Es} {st : Stmt} (G : Good T xc o W k C X) (h : mtS T C (.par is es) st = true) : PS X st (rdS X.K xc o W (.par is es)) := by
  simp only [mtS] at h
  split at h <;> first | cases h | skip
  rename_i ts k1 p1 vs k2 p2 pos
  obtain ⟨h1, h2, h3, h4⟩ := and4 h
  have h3 := of_decide_eq_true h3
  have hN : X.N.Nodup := by rw [G.N]; exact G.nd
  have pa := s_es (T := T) (xc := xc) (o := o) (W := W) (C := C) (X := X) (fun e he => (allE (T := T) (xc := xc) (o := o) (k := k) e W C X G).1) h1
  have is0 : xc.th ≠ none → ∀ i ∈ is, i ≠ 0 := fun z => mtNms_0 h2 (G.th z)
  split at h4
  · rename_i i j x px y py a b _
    simp only [Bool.or_eq_true, Bool.and_eq_true] at h4
    rcases h4 with h4 | ⟨⟨⟨h4, c1⟩, c2⟩, c3⟩
    · exact par_gen G h1 h2 h3 (of_decide_eq_true h4)
    · have n1 := of_decide_eq_true h4
      unfold mtNms at h2
      obtain ⟨m1, h2⟩ := and2 h2
      unfold mtNms at h2
      obtain ⟨m2, _⟩ := and2 h2
      unfold nmIs at m1 m2
      refine PS.imp (ps_par G.calm hN (by rw [G.N]; exact (of_decide_eq_true (and2 m1).1).1) (by rw [G.N]; exact (of_decide_eq_true (and2 m2).1).1) (of_decide_eq_true c3) (by rw [G.sc]; exact of_decide_eq_true c1) (by rw [G.sc]; exact of_decide_eq_true c2) pa (swp_ok n1 G.sc) rfl) fun D σ H => ?_
      rintro ⟨φ, μ, env, s, rs, re, h⟩
      simp only [evS] at h
      refine ⟨φ, μ, env, s, rs, re, FinS.bind re h fun ds s' φ' μ' H' vs l rs' rl h' => ?_⟩
      cases q : setAll env [i, j] ds with
      | none => rw [q] at h'; exact h'.elim
      | some env' =>
        rw [q] at h'
        obtain ⟨d1, d2, rfl, rfl⟩ := setAll2 q
        obtain ⟨v1, r1, rfl, g1, g2⟩ := rl.of_cons
        obtain ⟨v2, r2, rfl, g3, g4⟩ := g2.of_cons
        have e0 := g4.of_nil
        subst e0
        exact ⟨v1, v2, rfl, h' φ' μ' H' _ Le.refl rs' (((re.up l).set (fun z => is0 z _ (by simp)) g1).set (fun z => is0 z _ (by simp)) g3)⟩
  · rename_i i j l x px y py z pz a b c _
    simp only [Bool.or_eq_true, Bool.and_eq_true] at h4
    rcases h4 with h4 | ⟨⟨⟨⟨⟨⟨h4, c1⟩, c2⟩, c3⟩, c4⟩, c5⟩, c6⟩
    · exact par_gen G h1 h2 h3 (of_decide_eq_true h4)
    · have n1 := of_decide_eq_true h4
      unfold mtNms at h2
      obtain ⟨m1, h2⟩ := and2 h2
      unfold mtNms at h2
      obtain ⟨m2, h2⟩ := and2 h2
      unfold mtNms at h2
      obtain ⟨m3, _⟩ := and2 h2
      unfold nmIs at m1 m2 m3
      refine PS.imp (ps_par3 G.calm hN (by rw [G.N]; exact (of_decide_eq_true (and2 m1).1).1) (by rw [G.N]; exact (of_decide_eq_true (and2 m2).1).1) (by rw [G.N]; exact (of_decide_eq_true (and2 m3).1).1) (of_decide_eq_true c4) (of_decide_eq_true c5) (of_decide_eq_true c6)
        (by rw [G.sc]; exact of_decide_eq_true c1) (by rw [G.sc]; exact of_decide_eq_true c2) (by rw [G.sc]; exact of_decide_eq_true c3) pa (swp_ok n1 G.sc) rfl) fun D σ H => ?_
      rintro ⟨φ, μ, env, s, rs, re, h⟩
      simp only [evS] at h
      refine ⟨φ, μ, env, s, rs, re, FinS.bind re h fun ds s' φ' μ' H' vs ll rs' rl h' => ?_⟩
      cases q : setAll env [i, j, l] ds with
      | none => rw [q] at h'; exact h'.elim
      | some env' =>
        rw [q] at h'
        obtain ⟨d1, d2, d3, rfl, rfl⟩ := setAll3 q
        obtain ⟨v1, r1, rfl, g1, g2⟩ := rl.of_cons
        obtain ⟨v2, r2, rfl, g3, g4⟩ := g2.of_cons
        obtain ⟨v3, r3, rfl, g5, g6⟩ := g4.of_cons
        have e0 := g6.of_nil
        subst e0
        exact ⟨v1, v2, v3, rfl, h' φ' μ' H' _ Le.refl rs' ((((re.up ll).set (fun z => is0 z _ (by simp)) g1).set (fun z => is0 z _ (by simp)) g3).set (fun z => is0 z _ (by simp)) g5)⟩
  · exact par_gen G h1 h2 h3 (of_decide_eq_true h4)
/-- two fields at once -/
theorem s_pf2 {a1 a2 : E} {c f1 f2 : Str} {es : Es} {st : Stmt} (G : Good T xc o W k C X) (h : mtS T C (.pf2 c a1 f1 a2 f2 es) st = true) : PS X st (rdS X.K xc o W (.pf2 c a1 f1 a2 f2 es)) := by
  simp only [mtS] at h
  split at h <;> first | cases h | skip
  rename_i o1 n1 q1 o2 n2 q2 k1 p1 vs k2 p2 pos
  simp only [Bool.and_eq_true] at h
  obtain ⟨⟨⟨⟨⟨⟨h1, h2⟩, h3⟩, h4⟩, h5⟩, h6⟩, h7⟩ := h
  have e1 := of_decide_eq_true h1
  have e2 := of_decide_eq_true h2
  subst e1 e2
  obtain ⟨C0, c1, c2, c3⟩ := G.fld c n1 (of_decide_eq_true h3)
  obtain ⟨C9, d1, d2, d3⟩ := G.fld c n2 (of_decide_eq_true h4)
  have ec := d1.one c1
  subst ec
  have ha1 := to_E ((allE (T := T) (xc := xc) (o := o) (k := k) a1 W C X G).1 o1 h6)
  have ha2 := to_E ((allE (T := T) (xc := xc) (o := o) (k := k) a2 W C X G).1 o2 h7)
  have pa := s_es (T := T) (xc := xc) (o := o) (W := W) (C := C) (X := X) (fun e he => (allE (T := T) (xc := xc) (o := o) (k := k) e W C X G).1) h5
  have ht : PE X (.Tuple vs k2 p2) _ := pe_tup pa
  have hw : swappedStores [.Tuple [.Attribute o1 n1 q1, .Attribute o2 n2 q2] k1 p1] (.Tuple vs k2 p2) X.env = pure none := by
    refine swp_ok (sc := X.env.scope) ?_ rfl
    unfold swp
    simp [swNames]
  refine PS.imp (ps_asg ht (pg_tup G.calm (pgs_cons (pg_att ha1) (pgs_cons (pg_att ha2) pgs_nil rfl) rfl) rfl rfl) rfl hw rfl) fun D σ H => ?_
  rintro ⟨φ, μ, env, s, rs, re, h⟩
  simp only [evS] at h
  refine ⟨φ, μ, env, s, rs, re, FinS.bind re h fun ds s1 φ1 μ1 H1 us l1 rs1 rl1 h1 => ?_⟩
  match ds, rl1, h1 with
  | [], _, h1 => exact h1.elim
  | [_], _, h1 => exact h1.elim
  | _ :: _ :: _ :: _, _, h1 => exact h1.elim
  | [x1, x2], rl1, h1 =>
  obtain ⟨v1, v2, rfl, r1, r2⟩ := two_of rl1
  refine ⟨by simp [sizeLine_eq], fun p hp => ⟨p, [v1, v2], rfl, SqT.of upd_same, rfl, v1, [v2], rfl, ?_⟩⟩
  have l0 : Le X.K φ1 μ1 H1 φ1 μ1 (upd H1 p (.tup [v1, v2])) := Le.new hp rs1.here
  have rs0 : RelS X.K φ1 μ1 (upd H1 p (.tup [v1, v2])) s1 := rs1.beside hp
  have re0 := (re.up l1).up l0
  refine ⟨φ1, μ1, env, s1, rs0, re0, FinS.bind re0 (FinS.up l0 h1) fun x s2 φ2 μ2 H2 w l2 rs2 rd2 h2 => ?_⟩
  cases q : fputR c n1 x x1 s2 with
  | none => rw [q] at h2; exact h2.elim
  | some s3 =>
  rw [q] at h2
  obtain ⟨p1', dx, ws, rfl, g1, g2, g3, g4⟩ := fput_rel c1 rs2 rd2 ((r1.up l0).up l2) q
  refine ⟨p1', _, dx, ws, rfl, g1, c2, c3, g2, v2, [], rfl, ?_⟩
  have re3 := (re0.up l2).up g3
  refine ⟨φ2, μ2, env, s3, g4, re3, FinS.bind re3 (FinS.up g3 h2) fun y s4 φ4 μ4 H4 w4 l4 rs4 rd4 h4 => ?_⟩
  cases q4 : fputR c n2 y x2 s4 with
  | none => rw [q4] at h4; exact h4.elim
  | some s5 =>
  rw [q4] at h4
  obtain ⟨p4, dx4, ws4, rfl, k1', k2', k3, k4⟩ := fput_rel c1 rs4 rd4 ((((r2.up l0).up l2).up g3).up l4) q4
  exact ⟨p4, _, dx4, ws4, rfl, k1', d2, d3, k2', rfl, h4 φ4 μ4 _ σ k3 k4 ((re3.up l4).up k3)⟩
end
end Mi

/-! # raise, try, suites of except -/
namespace Mi
open PySem PySem.Spec PyProof.Rows L2
section
variable {T : Tab} {xc : XcT} {o : Orc} {W : WX} {k : Nat} {C : SC} {X : Cx}
theorem mk_exc {K : PySem.W.Frag} {φ : Fz} {μ : List Addr} {H : Hp} {c : String} {d : D} {a C fI Dq dd : Addr} {w : V} (h1 : (true, a) ∈ φ) (h2 : (true, dd) ∈ φ) (h3 : H a = some (ErrO (.ref C) dd a)) (h4 : H dd = some (.xd [(("value" : Str), w)])) (h5 : ErrAt K c C fI Dq) (h6 : RelD K φ μ H d w) : RelD K φ μ H (.exc c d) (.ref a) := by
  unfold RelD
  exact ⟨a, C, fI, Dq, dd, w, rfl, h1, h2, h3, h4, h5, h6⟩
/-- a new thing beside, from now on as it is -/
theorem RelS.fixed {K : PySem.W.Frag} {φ : Fz} {μ : List Addr} {H : Hp} {s : Sto} {p : Addr} {ob : HO} (rs : RelS K φ μ H s) (hp : H p = none) (ht : ∀ ps, ob ≠ .tbl ps) : RelS K ((true, p) :: φ) μ (upd H p ob) s ∧ Le K φ μ H ((true, p) :: φ) μ (upd H p ob) := by
  obtain ⟨q1, q2⟩ := (rs.beside (o := ob) hp).aside (a := p) true ⟨_, upd_same, ht⟩ (fun b hb => rs.here _ hb hp) (fun hm => rs.here_mu hm hp)
  exact ⟨q1, (Le.new hp rs.here).trans q2⟩
theorem s_rais {c : String} {e : E} {st : Stmt} (G : Good T xc o W k C X) (h : mtS T C (.rais c e) st = true) : PS X st (rdS X.K xc o W (.rais c e)) := by
  simp only [mtS] at h
  split at h <;> first | cases h | skip
  rename_i x p l pos pos2
  obtain ⟨h1, h2, h3, h4⟩ := and4 h
  obtain ⟨ez, gz, gd, y, hy, ey⟩ := isx_ok G.s h1
  obtain ⟨y2, hy2, ey2⟩ := List.any_eq_true.mp h2
  have ey2 := of_decide_eq_true ey2
  subst ey2
  obtain ⟨⟨Cz, fz, Dz, az, mz, fn⟩, _⟩ := G.errs y2 hy2
  rw [← ez] at mz
  have ie := to_E ((allE (T := T) (xc := xc) (o := o) (k := k) e W C X G).1 l h3)
  refine PS.imp (ps_raise G.calm G.takes (pmk_err fn az.2.2.1 mz G.room gz gd ie (star_cons h4))) fun D σ H => ?_
  rintro ⟨φ, μ, env, s, rs, re, h⟩
  simp only [evS] at h
  refine ⟨φ, μ, env, s, rs, re, FinS.bind re h fun d s' φ' μ' H' v l rs' rd h' => fun dd hdd => ?_⟩
  obtain ⟨q1, q2⟩ := rs'.fixed (ob := .xd [(("value" : Str), v)]) hdd (fun _ z => nomatch z)
  exact h' _ _ _ σ (.ref Cz) (some dd) q2 q1 ((re.up l).up q2) ⟨Cz, fz, Dz, dd, v, rfl, rfl, List.mem_cons_self, upd_same, az, rd.up q2⟩
/-! ### suites -/
theorem tup_core {es : Es} {ls : List Expr} {kk : Nat} {pos : Pos} (pa : PA X ls (rdA X.K xc o W es)) : PE X (.Tuple ls kk pos) (rdP X.K xc o W (.tup es)) := by
  refine PE.imp (pe_tup pa) fun σ H Q => ?_
  rintro ⟨φ, μ, env, s, rs, re, h⟩
  simp only [ev] at h
  refine ⟨φ, μ, env, s, rs, re, Fin.bind h fun ds s' φ' μ' H' vs l rs' rl h' => ?_⟩
  split at h'
  · rename_i c
    refine ⟨by rw [← rl.length]; exact le_line c, fun p hp => ?_⟩
    exact h' _ _ _ _ (Le.new hp rs'.here) (rs'.beside hp) (mk_tup (SqT.of upd_same) (rl.up (Le.new hp rs'.here)))
  · exact h'.elim
theorem ite_core {c a b : E} {q l r : Expr} {pos : Pos} (ic : PT X q (rdT X.K xc o W c)) (ia : PE X l (rdP X.K xc o W a)) (ib : PE X r (rdP X.K xc o W b)) : PE X (.IfExp q l r pos) (rdP X.K xc o W (.ite c a b)) := by
  refine PE.imp (pe_ifExp ic ia ib) fun σ H Q => ?_
  rintro ⟨φ, μ, env, s, rs, re, h⟩
  have e2 : ev o (.ite c a b) env s = (tst o c env s).bind fun t s1 => if t = true then ev o a env s1 else ev o b env s1 := by
    unfold tst
    simp only [ev, R.bindv]
    cases (ev o c env s).bind lay with
    | no => rfl
    | ex _ _ _ => rfl
    | ok x s1 =>
      simp only [R.bind_ok]
      cases truth x s1 with
      | none => rfl
      | some t => cases t <;> rfl
  rw [e2] at h
  refine ⟨φ, μ, env, s, rs, re, Fin.bind h fun t s' φ' μ' H' c l rs' e h' => ?_⟩
  cases e
  cases t with
  | true => rw [if_pos rfl] at h' ⊢; exact ⟨φ', μ', env, s', rs', re.up l, h'⟩
  | false => rw [if_neg Bool.false_ne_true] at h' ⊢; exact ⟨φ', μ', env, s', rs', re.up l, h'⟩
theorem var_core {i : Nat} {x : Str} {pos : Pos} (G : GoodS T xc C X) (h : (decide (C.N[i]? = some x) && visB C.sc x && plainName x && (!C.th || decide (i ≠ 0))) = true) : PE X (.Name x pos) (rdP X.K xc o W (.var i)) := by
  obtain ⟨h1, h2, h3, h4⟩ := and4 h
  obtain ⟨d1, d2, _⟩ := plain_dbg h3
  have n0 : xc.th ≠ none → i ≠ 0 := fun z => by
    have := G.th z
    rw [this] at h4
    exact of_decide_eq_true (by simpa using h4)
  refine PE.imp (pe_var (i := i) (by rw [G.N]; exact of_decide_eq_true h1) (by rw [G.sc]; exact visB_ok h2) d1 d2) fun σ H Q => ?_
  rintro ⟨φ, μ, env, s, rs, re, h⟩
  simp only [ev] at h
  cases q : env[i]? with
  | none => simp only [q] at h; exact h.elim
  | some od =>
    cases od with
    | none => simp only [q] at h; exact h.elim
    | some d =>
      simp only [q] at h
      obtain ⟨v, e1, e2⟩ := re.at_ i d q n0
      exact ⟨v, e1, fin_val h rs e2⟩
mutual
theorem allHE (G : GoodS T xc C X) : ∀ (e : E) (x : Expr), mtHE T C e x = true → PE X x (rdP X.K xc o W e)
  | .var i, x, h => by
    unfold mtHE at h
    cases x <;> first | cases h | exact var_core G h
  | .con d, x, h => by
    unfold mtHE at h
    cases x <;> first | cases h | exact s_con (T := T) (m := .v) (C := C) (by unfold mtE; exact h)
  | .tup es, x, h => by
    unfold mtHE at h
    cases x <;> first | cases h | exact tup_core (allHEs G es _ h)
  | .ite c a b, x, h => by
    unfold mtHE at h
    cases x <;> first | cases h | skip
    obtain ⟨h1, h2, h3, h4⟩ := and4 h
    exact ite_core (to_T h1 (allHE G c _ h2)) (allHE G a _ h3) (allHE G b _ h4)
  | .ise a c, x, h => by
    unfold mtHE at h
    split at h <;> first | cases h | skip
    obtain ⟨h1, h2, h3, h4⟩ := and4 h
    exact ise_core G (allHE G a _ h2) h1 h3 h4
  | .exv a, x, h => by
    unfold mtHE at h
    cases x <;> first | cases h | skip
    obtain ⟨h1, h2, h3⟩ := and3 h
    rw [of_decide_eq_true h1]
    exact exv_core (allHE G a _ h3) h2
  | .glo _, _, h | .bin _ _ _, _, h | .neg _, _, h | .not _, _, h | .and _, _, h | .or _, _, h | .cmp _ _ _, _, h | .chn _ _ _ _ _, _, h | .lst _, _, h | .tupx _ _, _, h | .lstx _ _, _, h | .fn _ _, _, h | .fnk _ _ _ _, _, h | .m _ _ _, _, h
  | .b1 _ _, _, h | .b2 _ _ _, _, h | .bq _ _, _, h | .rng _, _, h | .lrg _, _, h | .zip _ _, _, h | .enu _, _, h | .idx _ _, _, h | .slc _ _ _, _, h | .rev _, _, h | .lc _ _ _ _, _, h | .lcf _ _ _ _ _, _, h | .dnw, _, h | .dsp _, _, h | .dct _, _, h
  | .dg2 _ _ _, _, h | .dsd _ _ _, _, h | .srk _ _, _, h | .fld _ _ _, _, h | .mk _ _, _, h | .mt _ _ _ _ _, _, h | .dnc _ _ _ _ _, _, h | .itm _ _, _, h | .lset _, _, h | .dead, _, h | .dc _ _ _ _ _ _, _, h | .rep _ _, _, h | .irg _ _ _, _, h
  | .cll _, _, h | .fwd _ _ _, _, h | .fnl _ _ _ _, _, h | .prp _ _ _ _, _, h => by unfold mtHE at h; cases h
theorem allHEs (G : GoodS T xc C X) : ∀ (es : Es) (ls : List Expr), mtHEs T C es ls = true → PA X ls (rdA X.K xc o W es)
  | .nil, [], _ => by
    refine PA.imp pa_nil fun σ H Q => ?_
    rintro ⟨φ, μ, env, s, rs, re, h⟩
    simp only [evs] at h
    exact h.here rs .nil
  | .nil, _ :: _, h => by unfold mtHEs at h; cases h
  | .cons _ _, [], h => by unfold mtHEs at h; cases h
  | .cons e r, l :: ls, h => by
    unfold mtHEs at h
    obtain ⟨h1, h2, h3⟩ := and3 h
    refine PA.imp (pa_cons (to_E (allHE G e l h1)) (allHEs G r ls h3) (star_cons h2)) fun σ H Q => ?_
    rintro ⟨φ, μ, env, s, rs, re, h⟩
    simp only [evs] at h
    refine seqv rs re h fun d s1 φ1 μ1 H1 v l1 rs1 re1 rd1 h1 => ⟨φ1, μ1, env, s1, rs1, re1, Fin.bind h1 fun ds s2 φ2 μ2 H2 vs l2 rs2 rl h2 => h2.here rs2 (.cons (rd1.up l2) rl)⟩
end
theorem allHS (G : GoodS T xc C X) (st : S) (x : Stmt) (h : mtHS T C st x = true) : PS X x (rdS X.K xc o W st) := by
  unfold mtHS at h
  split at h <;> first | cases h | skip
  · rename_i e
    split at h <;> first | cases h | skip
    rename_i e' pos
    refine PS.imp (ps_ret (to_E (allHE (o := o) (W := W) G e e' h))) fun D σ H => ?_
    rintro ⟨φ, μ, env, s, rs, re, h⟩
    simp only [evS] at h
    exact ⟨φ, μ, env, s, rs, re, FinS.bind re h fun d s' φ' μ' H' v l rs' rd h' => h' φ' μ' H' σ Le.refl rs' (re.up l) v rd⟩
  · rename_i tg e
    split at h <;> first | cases h | skip
    rename_i i y py e' pos
    obtain ⟨h1, h2, h3⟩ := and3 h
    have n0 : xc.th ≠ none → i ≠ 0 := fun z => nmIs_0 h2 (G.th z)
    have hN : X.N.Nodup := by rw [G.N]; exact G.nd
    unfold nmIs isKind at h2
    simp only [Bool.and_eq_true, Bool.or_eq_true, decide_eq_true_eq] at h2
    obtain ⟨k1, k2⟩ := h2
    have hi : X.N[i]? = some y := by rw [G.N]; exact k1.1
    have pg : PG X (.Name y py) (gName i) := by
      rcases k2 with k2 | ⟨k2, k3⟩
      · have z : X.env.scope.names.lookup y = some .local := by rw [G.sc]; exact k2
        exact pg_name hN hi (.inl z) (.inr z)
      · have z : X.env.scope.names.lookup y = some .cell := by rw [G.sc]; exact k2
        exact pg_name hN hi (.inr z) (.inl (by rw [G.fn]; exact k3))
    refine PS.imp (ps_asg (to_E (allHE (o := o) (W := W) G e e' h1)) pg (by show swapsWith e' (some (.Name y py)) pos.line X.env = pure false; exact swaps_none h3) (swapped_none (.inl ⟨(fun _ _ _ z => (nomatch z)), (fun _ _ z => (nomatch z))⟩)) rfl) fun D σ H => ?_
    rintro ⟨φ, μ, env, s, rs, re, h⟩
    simp only [evS] at h
    refine ⟨φ, μ, env, s, rs, re, FinS.bind re h fun d s' φ' μ' H' v l rs' rd h' => ?_⟩
    exact h' φ' μ' H' _ Le.refl rs' ((re.up l).set n0 rd)
theorem allHSs (G : GoodS T xc C X) : ∀ (st : Ss) (x : List Stmt), mtHSs T C st x = true → PSs X x (rdSs X.K xc o W st)
  | .nil, [], _ => by
    refine PSs.imp pss_nil fun D σ H => ?_
    rintro ⟨φ, μ, env, s, rs, re, h⟩
    simp only [evSs] at h
    exact h φ μ H σ Le.refl rs re
  | .nil, _ :: _, h => by unfold mtHSs at h; cases h
  | .cons _ _, [], h => by unfold mtHSs at h; cases h
  | .cons st r, l :: ls, h => by
    unfold mtHSs at h
    obtain ⟨h1, h2⟩ := and2 h
    refine PSs.imp (pss_cons (allHS (o := o) (W := W) G st l h1) (allHSs G r ls h2)) fun D σ H => ?_
    rintro ⟨φ, μ, env, s, rs, re, h⟩
    simp only [evSs] at h
    refine ⟨φ, μ, env, s, rs, re, ?_⟩
    revert h
    generalize evS o st env s = q
    intro h
    cases q with
    | no => exact h
    | ex c v env' s' => exact h
    | ok f env' s' =>
      cases f with
      | nxt => exact fun φ' μ' H' σ' l rs' re' => ⟨φ', μ', env', s', rs', re', FinS.up l h⟩
      | brk => exact h
      | cnt => exact h
      | ret d => exact h
/-! ### try -/
theorem Good.tr {pn : List (Addr × Obj)} {xe : Value → Shared → Prop} {W' : WX} (G : Good T xc o W k C X) (tk : Takes (X.tr pn xe) W') (po : PassesOwn (model X.prog X.w) X.A X.env xe) : Good T xc o W' k C (X.tr pn xe) :=
  ⟨G.calm, G.nd, G.N, G.sc, G.fn, G.free, G.room, G.guards, tk, po, G.glo, G.call, G.fld, G.mkr, G.lam, G.th, G.tp, G.cl, G.lamg, G.thk, G.prp, G.errs, G.mth⟩
theorem tri_core {b h : Ss} {i : Nat} {st : Stmt} (G : Good T xc o W k C X) (hm : mtS T C (.tri b i h) st = true)
    (ih : ∀ (W' : WX) (X' : Cx), Good T xc o W' k C X' → ∀ x, mtSs T C b x = true → PSs X' x (rdSs X'.K xc o W' b)) : PS X st (rdS X.K xc o W (.tri b i h)) := by
  simp only [mtS] at hm
  split at hm <;> first | cases hm | skip
  rename_i b' x np n h0 hs' pos' pos
  simp only [Bool.and_eq_true] at hm
  obtain ⟨⟨⟨⟨⟨h1, h2⟩, h3⟩, h4⟩, h5⟩, h6⟩ := hm
  obtain ⟨hex, hstk, hfrm⟩ := G.tp h1
  obtain ⟨ez, gz, gd, y, hy, ey⟩ := isx_ok G.s h2
  obtain ⟨⟨Cz, fz, Dz, az, mz, _⟩, _⟩ := G.errs y hy
  rw [ey] at mz
  subst ez
  have cz : ClsAt X.K "QueueError" Cz := by
    have := az.2.1
    rw [ey] at this
    exact this
  have n0 : xc.th ≠ none → i ≠ 0 := fun z => nmIs_0 h3 (G.th z)
  have hN : X.N.Nodup := by rw [G.N]; exact G.nd
  have hi : X.N[i]? = some n := by
    unfold nmIs at h3
    rw [G.N]
    exact (of_decide_eq_true (and2 h3).1).1
  have hln : X.env.kindOf n = some .local := by
    show X.env.scope.names.lookup n = some .local
    rw [G.sc]
    exact of_decide_eq_true h4
  refine PS.imp (ps_hold (c := .ref Cz) (tb := fun W' => rdSs X.K xc o W' b) (ts := rdSs X.K xc o (fun _ _ _ _ => False) h) hstk hfrm hex hN hi hln ⟨gz, gd, .inl mz⟩ (fun W' pn xe tk po => ih W' (X.tr pn xe) (G.tr tk po) b' h5) fun a pn => allHSs (G.s.suite (a := a) (pn := pn)) h (h0 :: hs') h6) fun D σ H => ?_
  rintro ⟨φ, μ, env, s, rs, re, hr⟩
  simp only [evS] at hr
  refine ⟨φ, μ, env, s, rs, re, ?_⟩
  revert hr
  generalize evSs o b env s = r
  intro hr
  cases r with
  | no => exact hr.elim
  | ok f env' s' => exact hr
  | ex c v env' s' =>
    intro φ1 μ1 H1 σ1 cls dx l rs1 re1 ⟨Cc, fI, Dq, dd, w, e1, e2, hφ, hxd, at_, rd⟩
    subst e1 e2
    have eD : Dq = Cz := at_.2.2.2.one cz
    refine ⟨dd, rfl, by rw [← eD]; exact at_.2.2.1.te, fun a ha => ?_⟩
    obtain ⟨q1, q2⟩ := rs1.fixed (ob := ErrO (.ref Cc) dd a) ha (fun _ z => by unfold ErrO at z; cases z)
    have ne : dd ≠ a := fun z => by rw [← z, hxd] at ha; cases ha
    refine ⟨_, _, env'.set i (some (.exc c v)), s', q1, (re1.up q2).set n0 (mk_exc List.mem_cons_self (List.mem_cons_of_mem _ hφ) upd_same (by rw [upd_ne ne]; exact hxd) at_ (rd.up q2)), ?_⟩
    have hr' := FinS.up (l.trans q2) hr
    revert hr'
    dsimp only
    generalize evSs o h _ s' = q
    intro hr'
    cases q with
    | no => exact hr'.elim
    | ex _ _ _ _ => exact hr'.elim
    | ok f env2 s2 =>
      intro φ3 μ3 H3 σ3 l3 rs3 re3
      have z := hr' φ3 μ3 H3 (σ3.set i none) l3 rs3 (re3.unset n0)
      cases f with
      | nxt => exact z
      | brk => exact z
      | cnt => exact z
      | ret d => exact z
end
end Mi

/-! # All statements -/
namespace Mi
open PySem L2
section
variable {T : Tab} {xc : XcT} {o : Orc} {W : WX} {k : Nat} {C : SC} {X : Cx}
/-- the ends of a loop's body -/
theorem loop_ends {K : PySem.W.Frag} {φ : Fz} {μ : List Addr} {H : Hp} {r : RS} {D : Ends} {N : St → Hp → Prop} {g : Env → Sto → RS} (h : FinS K xc W φ μ H (match r with
      | .ok .nxt env' s' => g env' s'
      | .ok .cnt env' s' => g env' s'
      | .ok .brk env' s' => .ok .nxt env' s'
      | .ok (.ret v) env' s' => .ok (.ret v) env' s'
      | .ex c v env' s' => .ex c v env' s'
      | .no => .no) D)
    (hN : ∀ env' s' φ' μ' H' σ', Le K φ μ H φ' μ' H' → RelS K φ' μ' H' s' → RelE xc K φ' μ' H' env' σ' → FinS K xc W φ' μ' H' (g env' s') D → N σ' H') : FinS K xc W φ μ H r { D with nx := N, ct := N, bk := D.nx } := by
  cases r with
  | no => exact h
  | ex c v env' s' => exact h
  | ok f env' s' =>
    cases f with
    | nxt => exact fun φ' μ' H' σ' l rs' re' => hN env' s' φ' μ' H' σ' l rs' re' (FinS.up l h)
    | cnt => exact fun φ' μ' H' σ' l rs' re' => hN env' s' φ' μ' H' σ' l rs' re' (FinS.up l h)
    | brk => exact h
    | ret v => exact h
theorem s_whl {c : E} {b : Ss} {x : Expr} {y : List Stmt} {pos : Pos} (G : Good T xc o W k C X) (hc : PT X x (rdT X.K xc o W c)) (hb : PSs X y (rdSs X.K xc o W b)) : PS X (.While x y [] pos) (rdS X.K xc o W (.whl c b)) := by
  refine PS.imp (ps_while G.own hc hb) fun D σ H => ?_
  rintro ⟨φ, μ, env, s, rs, re, h⟩
  simp only [evS] at h
  have hn : whl (fun env s => tst o c env s) (fun env s => evSs o b env s) env s ≠ .no := fun z => by rw [z] at h; exact h
  obtain ⟨n, e⟩ := whl_fuel hn
  refine ⟨fun n σ H => ∃ φ μ env s, RelS X.K φ μ H s ∧ RelE xc X.K φ μ H env σ ∧ FinS X.K xc W φ μ H (whlN (fun env s => tst o c env s) (fun env s => evSs o b env s) n env s) D, ⟨n, φ, μ, env, s, rs, re, by rw [e]; exact h⟩, ?_⟩
  rintro m σ1 H1 ⟨φ1, μ1, env1, s1, rs1, re1, h1⟩
  cases m with
  | zero => exact h1.elim
  | succ m =>
    refine ⟨φ1, μ1, env1, s1, rs1, re1, ?_⟩
    unfold whlN at h1
    revert h1
    generalize tst o c env1 s1 = r
    intro h1
    cases r with
    | no => exact h1
    | ex cl v s' => exact fun φ' μ' H' cls dx l rs' rx => h1 φ' μ' H' σ1 cls dx l rs' (re1.up l) rx
    | ok t s2 =>
      intro φ2 μ2 H2 bb l2 rs2 rb
      cases (show t = bb from rb)
      cases t with
      | false =>
        simp only [Bool.false_eq_true, if_false]
        exact h1 φ2 μ2 H2 σ1 l2 rs2 (re1.up l2)
      | true =>
        simp only [if_true]
        refine ⟨fun σ H => ∃ φ μ env s, RelS X.K φ μ H s ∧ RelE xc X.K φ μ H env σ ∧ FinS X.K xc W φ μ H (whlN (fun env s => tst o c env s) (fun env s => evSs o b env s) m env s) D, fun σ' H' w => ⟨m, Nat.lt_succ_self m, w⟩, φ2, μ2, env1, s2, rs2, re1.up l2, ?_⟩
        exact loop_ends (FinS.up l2 h1) fun env' s' φ' μ' H' σ' l rs' re' h' => ⟨φ', μ', env', s', rs', re', h'⟩
theorem s_fr {tg : Tg} {it : E} {b : Ss} {tx ix : Expr} {y : List Stmt} {pos : Pos} (G : Good T xc o W k C X) (hi : PI X tx ix (rdI X.K xc o W it)) (h3 : notSet ix = true) (hg : PG X tx (gB xc X.K tg)) (hb : PSs X y (rdSs X.K xc o W b)) : PS X (.For tx ix y [] pos) (rdS X.K xc o W (.fr tg it b)) := by
  refine PS.imp (ps_for G.own G.calm hi hg hb (fun x => folded_none h3)) fun D σ H => ?_
  rintro ⟨φ, μ, env, s, rs, re, h⟩
  simp only [evS] at h
  refine ⟨φ, μ, env, s, rs, re, FinS.bind re h fun src s0 φ0 μ0 H0 J l0 rs0 rj h => ?_⟩
  refine ⟨fun i m σ H => ∃ φ μ env s, RelS X.K φ μ H s ∧ RelE xc X.K φ μ H env σ ∧ Le X.K φ0 μ0 H0 φ μ H ∧ FinS X.K xc W φ μ H (turnsG (turnF tg fun env s => evSs o b env s) src m i env s) D, ⟨srcLen src, φ0, μ0, env, s0, rs0, re.up l0, Le.refl, h⟩, ?_⟩
  rintro i m σ1 H1 ⟨φ1, μ1, env1, s1, rs1, re1, l1, h1⟩
  obtain ⟨t1, t2⟩ := relI_step rj l1 rs1
  cases m with
  | zero =>
    simp only [turnsG] at h1
    by_cases he : srcEnd src i s1 = true
    · rw [if_pos he] at h1
      exact .inl ⟨t2 he, h1 φ1 μ1 H1 σ1 Le.refl rs1 re1⟩
    · rw [if_neg he] at h1; exact h1.elim
  | succ m =>
    simp only [turnsG] at h1
    cases q : srcGet src i s1 with
    | none => rw [q] at h1; exact h1.elim
    | some d =>
      rw [q] at h1
      simp only at h1
      obtain ⟨g1, g2⟩ := t1 d q
      refine .inr ⟨g1, fun σ H => ∃ φ μ env s, RelS X.K φ μ H s ∧ RelE xc X.K φ μ H env σ ∧ Le X.K φ0 μ0 H0 φ μ H ∧ FinS X.K xc W φ μ H (turnsG (turnF tg fun env s => evSs o b env s) src m (i + 1) env s) D, fun σ' H' w => ⟨m, Nat.lt_succ_self m, w⟩, fun x H'' y => ?_⟩
      obtain ⟨y1, y2, y3⟩ := g2 x H'' y
      unfold turnF at h1
      cases qb : bindTg tg d env1 with
      | none => rw [qb] at h1; exact h1.elim
      | some env' =>
        rw [qb] at h1
        refine ⟨φ1, μ1, env1, d, env', re1.up y1, y3, qb, fun σ' re' _ => ⟨φ1, μ1, env', s1, y2, re', ?_⟩⟩
        exact loop_ends (FinS.up y1 h1) fun env2 s2 φ2 μ2 H2 σ2 l2 rs2 re2 h2 => ⟨φ2, μ2, env2, s2, rs2, re2, (l1.trans y1).trans l2, h2⟩
mutual
theorem allS : ∀ (st : S) (W : WX) (C : SC) (X : Cx), Good T xc o W k C X → ∀ x, mtS T C st x = true → PS X x (rdS X.K xc o W st)
  | .asg tg e, W, C, X, G, x, h => s_asg G h
  | .sto a i e, W, C, X, G, x, h => s_sto G h
  | .par is es, W, C, X, G, x, h => s_par G h
  | .unl is e, W, C, X, G, x, h => s_unl G h
  | .aug i sub e, W, C, X, G, x, h => by
    simp only [mtS] at h
    split at h <;> first | cases h | skip
    rename_i y yp op e' pos
    obtain ⟨h1, h2, h3⟩ := and3 h
    have he := to_E ((allE (T := T) (xc := xc) (o := o) (k := k) e W C X G).1 e' h3)
    have hN : X.N.Nodup := by rw [G.N]; exact G.nd
    unfold nmIs isKind at h2
    simp only [Bool.and_eq_true, Bool.or_eq_true, decide_eq_true_eq] at h2
    obtain ⟨k1, k2⟩ := h2
    have n0 : xc.th ≠ none → i ≠ 0 := fun z => k1.2 (G.th z)
    have hi : X.N[i]? = some y := by rw [G.N]; exact k1.1
    have loc : Loc X.env.scope y ∧ (X.fn y = true ∨ X.env.scope.names.lookup y = some .local) := by
      rcases k2 with k2 | ⟨k2, k3⟩
      · have z : X.env.scope.names.lookup y = some .local := by rw [G.sc]; exact k2
        exact ⟨.inl z, .inr z⟩
      · have z : X.env.scope.names.lookup y = some .cell := by rw [G.sc]; exact k2
        exact ⟨.inr z, .inl (by rw [G.fn]; exact k3)⟩
    have rd : ∀ D σ H, rdS X.K xc o W (.aug i sub e) D σ H → ∃ a : Int, σ[i]? = some (some (.int a)) ∧ rdE X.K xc o W e σ H fun v H1 => ∃ b : Int, v = .int b ∧ D.nx (σ.set i (some (.int (if sub = true then a - b else a + b)))) H1 := by
      rintro D σ H ⟨φ, μ, env, s, rs, re, h⟩
      simp only [evS] at h
      split at h
      · rename_i a q
        obtain ⟨v, v1, v2⟩ := re.at_ i _ q n0
        rw [relD_int v2] at v1
        refine ⟨a, v1, φ, μ, env, s, rs, re, FinS.bind re h fun d s' φ' μ' H' w l rs' rd h' => ?_⟩
        cases d <;> first | exact h'.elim | skip
        rename_i b
        exact ⟨b, relD_int rd, h' φ' μ' H' _ Le.refl rs' ((re.up l).set n0 mk_int)⟩
      · exact h.elim
    cases sub with
    | true =>
      cases op <;> first | (cases h1; done) | skip
      refine PS.imp (ps_aug hN hi loc.1 he ip_sub loc.2) fun D σ H q => ?_
      obtain ⟨a, q1, φ, μ, env, s, rs, re, q2⟩ := rd D σ H q
      refine ⟨_, q1, φ, μ, env, s, rs, re, ?_⟩
      revert q2
      generalize evv o e env s = r
      intro q2
      cases r with
      | no => exact q2
      | ex c v s' => exact q2
      | ok d s' =>
        intro φ' μ' H' v l rs' rd'
        obtain ⟨b, rfl, q3⟩ := q2 φ' μ' H' v l rs' rd'
        exact ⟨a, b, rfl, rfl, q3⟩
    | false =>
      cases op <;> first | (cases h1; done) | skip
      refine PS.imp (ps_aug hN hi loc.1 he ip_add loc.2) fun D σ H q => ?_
      obtain ⟨a, q1, φ, μ, env, s, rs, re, q2⟩ := rd D σ H q
      refine ⟨_, q1, φ, μ, env, s, rs, re, ?_⟩
      revert q2
      generalize evv o e env s = r
      intro q2
      cases r with
      | no => exact q2
      | ex c v s' => exact q2
      | ok d s' =>
        intro φ' μ' H' v l rs' rd'
        obtain ⟨b, rfl, q3⟩ := q2 φ' μ' H' v l rs' rd'
        exact ⟨a, b, rfl, rfl, q3⟩
  | .expr e, W, C, X, G, x, h => by
    simp only [mtS] at h
    split at h <;> first | cases h | skip
    rename_i e' pos
    obtain ⟨h1, h2⟩ := and2 h
    refine PS.imp (ps_expr (to_E ((allE (T := T) (xc := xc) (o := o) (k := k) e W C X G).1 e' h1)) (swaps_none h2)) fun D σ H => ?_
    rintro ⟨φ, μ, env, s, rs, re, h⟩
    simp only [evS] at h
    exact ⟨φ, μ, env, s, rs, re, FinS.bind re h fun d s' φ' μ' H' v l rs' rd h' => h' φ' μ' H' σ Le.refl rs' (re.up l)⟩
  | .ret e, W, C, X, G, x, h => by
    simp only [mtS] at h
    split at h <;> first | cases h | skip
    rename_i e' pos
    refine PS.imp (ps_ret (to_E ((allE (T := T) (xc := xc) (o := o) (k := k) e W C X G).1 e' h))) fun D σ H => ?_
    rintro ⟨φ, μ, env, s, rs, re, h⟩
    simp only [evS] at h
    exact ⟨φ, μ, env, s, rs, re, FinS.bind re h fun d s' φ' μ' H' v l rs' rd h' => h' φ' μ' H' σ Le.refl rs' (re.up l) v rd⟩
  | .pass, W, C, X, G, x, h => by
    simp only [mtS] at h
    split at h <;> first | cases h | skip
    refine PS.imp ps_pass fun D σ H => ?_
    rintro ⟨φ, μ, env, s, rs, re, h⟩
    simp only [evS] at h
    exact h φ μ H σ Le.refl rs re
  | .brk, W, C, X, G, x, h => by
    simp only [mtS] at h
    split at h <;> first | cases h | skip
    refine PS.imp ps_break fun D σ H => ?_
    rintro ⟨φ, μ, env, s, rs, re, h⟩
    simp only [evS] at h
    exact h φ μ H σ Le.refl rs re
  | .cnt, W, C, X, G, x, h => by
    simp only [mtS] at h
    split at h <;> first | cases h | skip
    refine PS.imp ps_continue fun D σ H => ?_
    rintro ⟨φ, μ, env, s, rs, re, h⟩
    simp only [evS] at h
    exact h φ μ H σ Le.refl rs re
  | .iff c a b, W, C, X, G, x, h => by
    simp only [mtS] at h
    split at h <;> first | cases h | skip
    rename_i c' a' b' pos
    obtain ⟨h1, h2, h3⟩ := and3 h
    refine PS.imp (ps_if ((allE (T := T) (xc := xc) (o := o) (k := k) c W C X G).2.1 c' h1) (allSs a W C X G a' h2) (allSs b W C X G b' h3)) fun D σ H => ?_
    rintro ⟨φ, μ, env, s, rs, re, h⟩
    simp only [evS] at h
    refine ⟨φ, μ, env, s, rs, re, FinS.bind re h fun t s' φ' μ' H' v l rs' rd h' => ?_⟩
    cases (show t = v from rd)
    cases t with
    | true => rw [if_pos rfl] at h' ⊢; exact ⟨φ', μ', env, s', rs', re.up l, h'⟩
    | false => rw [if_neg (by decide)] at h' ⊢; exact ⟨φ', μ', env, s', rs', re.up l, h'⟩
  | .whl c b, W, C, X, G, x, h => by
    simp only [mtS] at h
    split at h <;> first | cases h | skip
    rename_i c' b' pos
    obtain ⟨h1, h2⟩ := and2 h
    exact s_whl G ((allE (T := T) (xc := xc) (o := o) (k := k) c W C X G).2.1 c' h1) (allSs b W C X G b' h2)
  | .fr tg it b, W, C, X, G, x, h => by
    simp only [mtS] at h
    split at h <;> first | cases h | skip
    rename_i tg' it' b' pos
    obtain ⟨h1, h2, h3, h4⟩ := and4 h
    exact s_fr G ((allE (T := T) (xc := xc) (o := o) (k := k) it W C X G).2.2 it' tg' h1) h2 (pg_tg G.n h3) (allSs b W C X G b' h4)
  | .rais c e, W, C, X, G, x, h => s_rais G h
  | .tri b i hh, W, C, X, G, x, h => tri_core G h fun W' X' G' y hy => allSs b W' C X' G' y hy
  | .sfd a c f e, W, C, X, G, x, h => s_sfd G h
  | .pf2 c a1 f1 a2 f2 es, W, C, X, G, x, h => s_pf2 G h
  | .dead, W, C, X, G, x, h => PS.imp ps_never fun D σ H => by
    rintro ⟨φ, μ, env, s, rs, re, h⟩
    simp only [evS] at h
    exact h.elim
theorem allSs : ∀ (st : Ss) (W : WX) (C : SC) (X : Cx), Good T xc o W k C X → ∀ x, mtSs T C st x = true → PSs X x (rdSs X.K xc o W st)
  | .nil, W, C, X, G, x, h => by
    cases x with
    | cons _ _ => unfold mtSs at h; cases h
    | nil =>
      refine ⟨fun pins s σ H D I q => pss_nil.run pins s σ H D I ?_⟩
      obtain ⟨φ, μ, env, s, rs, re, h⟩ := q
      simp only [evSs] at h
      exact h φ μ H σ Le.refl rs re
  | .cons st r, W, C, X, G, x, h => by
    cases x with
    | nil => unfold mtSs at h; cases h
    | cons l ls =>
      unfold mtSs at h
      obtain ⟨h1, h2⟩ := and2 h
      refine PSs.imp (pss_cons (allS st W C X G l h1) (allSs r W C X G ls h2)) fun D σ H => ?_
      rintro ⟨φ, μ, env, s, rs, re, h⟩
      simp only [evSs] at h
      refine ⟨φ, μ, env, s, rs, re, ?_⟩
      revert h
      generalize evS o st env s = q
      intro h
      cases q with
      | no => exact h
      | ex c v env' s' => exact h
      | ok f env' s' =>
        cases f with
        | nxt => exact fun φ' μ' H' σ' l rs' re' => ⟨φ', μ', env', s', rs', re', FinS.up l h⟩
        | brk => exact h
        | cnt => exact h
        | ret d => exact h
end
end
end Mi

/-! # Functions -/
namespace Mi
open PySem PySem.Spec PyProof.Rows L2
/-! ### what a call made is forgotten -/
section
variable {K : PySem.W.Frag} {φ φ' : Fz} {μ μ' : List Addr} {H H' : Hp}
mutual
theorem RelD.und : ∀ {d : D} {v : V}, RelD K φ μ H d v → d.und μ.length = true
  | .non, _, _ => rfl
  | .bl _, _, _ => rfl
  | .int _, _, _ => rfl
  | .str _, _, _ => rfl
  | .tup ds, _, h => by
    unfold RelD at h
    obtain ⟨a, vs, _, _, h2⟩ := h
    unfold D.und
    exact RelL.und h2
  | .flst ds, _, h => by
    unfold RelD at h
    obtain ⟨a, vs, _, _, h2⟩ := h
    unfold D.und
    exact RelL.und h2
  | .loc n, _, h => by
    unfold RelD at h
    obtain ⟨a, _, h1⟩ := h
    unfold D.und
    exact decide_eq_true (List.getElem?_eq_some_iff.mp h1).1
  | .fdk ks ds, _, h => by
    unfold RelD at h
    obtain ⟨a, x, ws, _, _, _, h2⟩ := h
    unfold D.und
    exact RelL.und h2
  | .fins c fs ds, _, h => by
    unfold RelD at h
    obtain ⟨a, C, dx, ws, _, _, _, _, _, h2⟩ := h
    unfold D.und
    exact RelL.und h2
  | .exc c d, _, h => by
    unfold RelD at h
    obtain ⟨a, C, fI, Dq, dd, w, _, _, _, _, _, _, h2⟩ := h
    unfold D.und
    exact RelD.und h2
  | .clo _ _, _, h => by unfold RelD at h; exact h.elim
theorem RelL.und : ∀ {ds : List D} {vs : List V}, RelL K φ μ H ds vs → D.undL μ.length ds = true
  | [], _, _ => rfl
  | d :: ds, _, h => by
    unfold RelL at h
    obtain ⟨v, r, _, h1, h2⟩ := h
    unfold D.undL
    rw [RelD.und h1, RelL.und h2]
    rfl
end
mutual
theorem RelD.cut {n : Nat} : ∀ {d : D} {v : V}, d.und n = true → RelD K φ μ H d v → RelD K φ (μ.take n) H d v
  | .non, _, _, h => by unfold RelD at h ⊢; exact h
  | .bl _, _, _, h => by unfold RelD at h ⊢; exact h
  | .int _, _, _, h => by unfold RelD at h ⊢; exact h
  | .str _, _, _, h => by unfold RelD at h ⊢; exact h
  | .tup ds, _, u, h => by
    unfold RelD at h ⊢
    obtain ⟨a, vs, e, h1, h2⟩ := h
    exact ⟨a, vs, e, h1, RelL.cut (by unfold D.und at u; exact u) h2⟩
  | .flst ds, _, u, h => by
    unfold RelD at h ⊢
    obtain ⟨a, vs, e, h1, h2⟩ := h
    exact ⟨a, vs, e, h1, RelL.cut (by unfold D.und at u; exact u) h2⟩
  | .loc k, _, u, h => by
    unfold RelD at h ⊢
    obtain ⟨a, e, h1⟩ := h
    have hk : k < n := by unfold D.und at u; exact of_decide_eq_true u
    exact ⟨a, e, by rw [List.getElem?_take_of_lt hk]; exact h1⟩
  | .fdk ks ds, _, u, h => by
    unfold RelD at h ⊢
    obtain ⟨a, x, ws, e, h1, h2, h3⟩ := h
    exact ⟨a, x, ws, e, h1, h2, RelL.cut (by unfold D.und at u; exact u) h3⟩
  | .fins c fs ds, _, u, h => by
    unfold RelD at h ⊢
    obtain ⟨a, C, dx, ws, e, h0, h1, h2, h3, h4⟩ := h
    exact ⟨a, C, dx, ws, e, h0, h1, h2, h3, RelL.cut (by unfold D.und at u; exact u) h4⟩
  | .exc c d, _, u, h => by
    unfold RelD at h ⊢
    obtain ⟨a, C, fI, Dq, dd, w, e, h1, h2, h3, h4, h5, h6⟩ := h
    exact ⟨a, C, fI, Dq, dd, w, e, h1, h2, h3, h4, h5, RelD.cut (by unfold D.und at u; exact u) h6⟩
  | .clo _ _, _, _, h => by unfold RelD at h; exact h.elim
theorem RelL.cut {n : Nat} : ∀ {ds : List D} {vs : List V}, D.undL n ds = true → RelL K φ μ H ds vs → RelL K φ (μ.take n) H ds vs
  | [], _, _, h => by unfold RelL at h ⊢; exact h
  | d :: ds, _, u, h => by
    unfold RelL at h ⊢
    obtain ⟨v, r, e, h1, h2⟩ := h
    unfold D.undL at u
    obtain ⟨u1, u2⟩ := and2 u
    exact ⟨v, r, e, RelD.cut u1 h1, RelL.cut u2 h2⟩
end
theorem RelC.cut {n : Nat} {c : Cell} {a : Addr} (u : c.und n = true) (h : RelC K φ μ H c a) : RelC K φ (μ.take n) H c a := by
  cases c with
  | lst xs =>
    obtain ⟨vs, h1, h2⟩ := h
    exact ⟨vs, h1, RelL.cut u h2⟩
  | dk kvs =>
    obtain ⟨ws, h1, h2, h3⟩ := h
    exact ⟨ws, h1, h2, RelL.cut u h3⟩
  | ins c fs =>
    obtain ⟨C, dx, ws, h1, h0, h2, h3⟩ := h
    exact ⟨C, dx, ws, h1, h0, h2, RelL.cut u h3⟩
  | lk kvs =>
    obtain ⟨ob, ws, h1, h2, h3⟩ := h
    exact ⟨ob, ws, h1, h2, RelL.cut u h3⟩
theorem RelC.und {c : Cell} {a : Addr} (h : RelC K φ μ H c a) : c.und μ.length = true := by
  cases c with
  | lst xs =>
    obtain ⟨vs, h1, h2⟩ := h
    exact h2.und
  | dk kvs =>
    obtain ⟨ws, h1, h2, h3⟩ := h
    exact h3.und
  | ins c fs =>
    obtain ⟨C, dx, ws, h1, h0, h2, h3⟩ := h
    exact h3.und
  | lk kvs =>
    obtain ⟨ob, ws, h1, h2, h3⟩ := h
    exact h3.und
/-- the places that were made are left -/
theorem RelS.cut {s s' : Sto} (rs : RelS K φ μ H s) (l : Le K φ μ H φ' μ' H') (rs' : RelS K φ' μ' H' s') (hl : s.length ≤ s'.length) (ko : KeepsOld s s') :
    RelS K φ' (μ'.take s.length) H' (s'.take s.length) ∧ Le K φ μ H φ' (μ'.take s.length) H' := by
  have hlen := rs.len
  have hlen' := rs'.len
  refine ⟨⟨rs'.nd.sublist (List.take_sublist _ _), by rw [List.length_take, List.length_take]; omega, fun n c a e1 e2 => ?_, fun p hp hm => rs'.apart p hp (List.mem_of_mem_take hm), rs'.here, rs'.one, rs'.tabs, rs'.nt⟩,
    ⟨l.fz, ?_, l.tup, l.frz, l.set, l.ext⟩⟩
  · have hn : n < s.length := by
      have := (List.getElem?_eq_some_iff.mp e1).1
      rw [List.length_take] at this
      omega
    rw [List.getElem?_take_of_lt hn] at e1 e2
    have hc := rs'.cell n c a e1 e2
    rcases ko n hn with e | ⟨c', e, u⟩
    · rw [e1] at e
      have ha : n < μ.length := by omega
      have hc0 := rs.cell n c (μ[n]) e.symm (List.getElem?_eq_getElem ha)
      have u0 := hc0.und
      rw [hlen] at u0
      exact hc.cut u0
    · rw [e1] at e
      cases e
      exact hc.cut u
  · obtain ⟨r, e⟩ := l.pl
    rw [← e, ← hlen, List.take_left]
    exact List.prefix_refl _
/-- dicts are locked, one by one -/
theorem Lk.many {q : Hp → Prop} : ∀ (as : List Addr) (H : Hp), as.Nodup → (∀ a ∈ as, ∃ ws, H a = some (.dK ws)) → (∀ H2 : Hp, (∀ b, b ∉ as → H2 b = H b) → (∀ a ∈ as, ∀ ws, H a = some (.dK ws) → ∃ ob, H2 a = some (.frz ob (.dK ws))) → Lk q H2) → Lk q H
  | [], H, _, _, k => k H (fun _ _ => rfl) (fun _ z => nomatch z)
  | a :: as, H, nd, hd, k => by
    obtain ⟨ws, e⟩ := hd a List.mem_cons_self
    obtain ⟨n1, n2⟩ := List.nodup_cons.mp nd
    refine .lock e True.intro fun od => Lk.many as _ n2 (fun b hb => ?_) fun H2 g1 g2 => k H2 (fun b hb => ?_) fun b hb us hu => ?_
    · have ne : b ≠ a := by rintro rfl; exact n1 hb
      rw [upd_ne ne]
      exact hd b (List.mem_cons_of_mem _ hb)
    · have ne : b ≠ a := by rintro rfl; exact hb List.mem_cons_self
      rw [g1 b fun z => hb (List.mem_cons_of_mem _ z), upd_ne ne]
    · by_cases eb : b = a
      · subst eb
        rw [e] at hu
        cases hu
        exact ⟨od, by rw [g1 b n1, upd_same]⟩
      · have hb' : b ∈ as := (List.mem_cons.mp hb).resolve_left eb
        exact g2 b hb' us (by rw [upd_ne eb]; exact hu)
theorem take_drop_apart {l : List Addr} (nd : l.Nodup) {n : Nat} {a : Addr} (h : a ∈ l.take n) (g : a ∈ l.drop n) : False := by
  rw [← List.take_append_drop n l, List.nodup_append] at nd
  exact nd.2.2 a h a g rfl
open Classical in
/-- what a call made is handed back as trees -/
theorem retire {q : Hp → Prop} {s' : Sto} {n : Nat} (rs0 : RelS K φ' (μ'.take n) H' (s'.take n)) (rs' : RelS K φ' μ' H' s')
    (k : ∀ φ2 H2, Le K φ' (μ'.take n) H' φ2 (μ'.take n) H2 → RelS K φ2 (μ'.take n) H2 (s'.take n) → (∀ m d v, RelD K φ' μ' H' d v → (frz n s' m d).und n = true → RelD K φ2 (μ'.take n) H2 (frz n s' m d) v) → Lk q H2) : Lk q H' := by
  have nd := rs'.nd
  refine Lk.many ((μ'.drop n).filter fun a => decide (∃ ws, H' a = some (.dK ws))) H' ((nd.sublist (List.drop_sublist _ _)).sublist List.filter_sublist) (fun a ha => by simpa using (List.mem_filter.mp ha).2) fun H2 g1 g2 => ?_
  have keep : ∀ b, b ∉ μ'.drop n → H2 b = H' b := fun b hb => g1 b fun z => hb (List.mem_filter.mp z).1
  have keep2 : ∀ b, (∀ ws, H' b ≠ some (.dK ws)) → H2 b = H' b := fun b hb => g1 b fun z => by
    have := (List.mem_filter.mp z).2
    simp only [decide_eq_true_eq] at this
    obtain ⟨ws, e⟩ := this
    exact hb ws e
  have outφ : ∀ p ∈ φ', p.2 ∉ μ'.drop n := fun p hp z => rs'.apart p hp (List.mem_of_mem_drop z)
  have le : Le K φ' (μ'.take n) H' ((μ'.drop n).map (fun a => (true, a)) ++ φ') (μ'.take n) H2 := by
    refine ⟨fun p hp => List.mem_append_right _ hp, List.prefix_refl _, fun a vs h => ?_, fun a x u h => ?_, fun p hp => keep _ (outφ p hp), fun a q h => by rw [keep2 a (fun ws z => by rw [h] at z; cases z)]; exact h⟩
    · rcases h with (h | ⟨x, h⟩) | h
      · exact .inl (.inl (by rw [keep2 a (fun ws z => by rw [h] at z; cases z)]; exact h))
      · exact .inl (.inr ⟨x, by rw [keep2 a (fun ws z => by rw [h] at z; cases z)]; exact h⟩)
      · exact .inr h
    · rw [keep2 a (fun ws z => by rw [h] at z; cases z)]; exact h
  have rs2 : RelS K ((μ'.drop n).map (fun a => (true, a)) ++ φ') (μ'.take n) H2 (s'.take n) := by
    refine ⟨rs0.nd, rs0.len, fun i c a e1 e2 => ?_, fun p hp hm => ?_, fun p hp => ?_, fun a h1 h2 => ?_, rs'.tabs.keep (fun b ps e => by rw [keep2 b (fun ws z => by rw [e] at z; cases z)]; exact e) (fun b q e => by rw [keep2 b (fun ws z => by rw [e] at z; cases z)]; exact e), fun p hp ps => ?_⟩
    · exact (rs0.cell i c a e1 e2).up_but le (keep a fun z => take_drop_apart nd (List.mem_of_getElem? e2) z)
    · rcases List.mem_append.mp hp with hp | hp
      · obtain ⟨b, hb, rfl⟩ := List.mem_map.mp hp
        exact take_drop_apart nd hm hb
      · exact rs0.apart p hp hm
    · rcases List.mem_append.mp hp with hp | hp
      · obtain ⟨b, hb, rfl⟩ := List.mem_map.mp hp
        have h0 := rs'.here_mu (List.mem_of_mem_drop hb)
        by_cases c : ∃ ws, H' b = some (.dK ws)
        · obtain ⟨ws, e⟩ := c
          obtain ⟨ob, e2⟩ := g2 b (List.mem_filter.mpr ⟨hb, by simpa using ⟨ws, e⟩⟩) ws e
          show H2 b ≠ none
          rw [e2]
          exact fun z => nomatch z
        · show H2 b ≠ none
          rw [keep2 b fun ws z => c ⟨ws, z⟩]
          exact h0
      · rw [keep _ (outφ p hp)]
        exact rs0.here p hp
    · have h1' : (false, a) ∈ φ' := by
        rcases List.mem_append.mp h1 with z | z
        · obtain ⟨b, _, e⟩ := List.mem_map.mp z
          cases e
        · exact z
      rcases List.mem_append.mp h2 with z | z
      · obtain ⟨b, hb, e⟩ := List.mem_map.mp z
        cases e
        exact outφ _ h1' hb
      · exact rs0.one a h1' z
    · rcases List.mem_append.mp hp with hp | hp
      · obtain ⟨b, hb, rfl⟩ := List.mem_map.mp hp
        have h0 := rs'.nt_mu (List.mem_of_mem_drop hb) ps
        by_cases c : ∃ ws, H' b = some (.dK ws)
        · obtain ⟨ws, e⟩ := c
          obtain ⟨ob, e2⟩ := g2 b (List.mem_filter.mpr ⟨hb, by simpa using ⟨ws, e⟩⟩) ws e
          show H2 b ≠ _
          rw [e2]
          exact fun z => nomatch z
        · show H2 b ≠ _
          rw [keep2 b fun ws z => c ⟨ws, z⟩]
          exact h0
      · rw [keep _ (outφ p hp)]
        exact rs0.nt p hp ps
  refine k _ H2 le rs2 ?_
  intro m
  have many : (∀ d v, RelD K φ' μ' H' d v → (frz n s' m d).und n = true → RelD K ((μ'.drop n).map (fun a => (true, a)) ++ φ') (μ'.take n) H2 (frz n s' m d) v) →
      ∀ (ds : List D) (vs : List V), RelL K φ' μ' H' ds vs → D.undL n (ds.map (frz n s' m)) = true → RelL K ((μ'.drop n).map (fun a => (true, a)) ++ φ') (μ'.take n) H2 (ds.map (frz n s' m)) vs := by
    intro ih ds
    induction ds with
    | nil => intro vs r _; rw [r.of_nil]; exact .nil
    | cons d ds ih2 =>
      intro vs r u
      obtain ⟨v, vr, rfl, r1, r2⟩ := r.of_cons
      rw [List.map_cons] at u ⊢
      unfold D.undL at u
      obtain ⟨u1, u2⟩ := and2 u
      exact .cons (ih d v r1 u1) (ih2 vr r2 u2)
  clear many
  induction m with
  | zero =>
    intro d v rd u
    unfold frz at u ⊢
    exact (rd.cut u).up le
  | succ m ih =>
    have many : ∀ (ds : List D) (vs : List V), RelL K φ' μ' H' ds vs → D.undL n (ds.map (frz n s' m)) = true → RelL K ((μ'.drop n).map (fun a => (true, a)) ++ φ') (μ'.take n) H2 (ds.map (frz n s' m)) vs := by
      intro ds
      induction ds with
      | nil => intro vs r _; rw [r.of_nil]; exact .nil
      | cons d ds ih2 =>
        intro vs r u
        obtain ⟨v, vr, rfl, r1, r2⟩ := r.of_cons
        rw [List.map_cons] at u ⊢
        unfold D.undL at u
        obtain ⟨u1, u2⟩ := and2 u
        exact .cons (ih d v r1 u1) (ih2 vr r2 u2)
    intro d v rd u
    cases d with
    | non => cases relD_non rd; exact mk_non
    | bl b => cases relD_bl rd; exact mk_bl
    | int b => cases relD_int rd; exact mk_int
    | str b => cases relD_str rd; exact mk_str
    | tup xs =>
      obtain ⟨a, vs, rfl, h1, h2⟩ := relD_tup rd
      simp only [frz] at u ⊢
      exact mk_tup (le.tup a vs h1) (many xs vs h2 (by unfold D.und at u; exact u))
    | flst xs =>
      obtain ⟨a, vs, rfl, h1, h2⟩ := relD_flst rd
      simp only [frz] at u ⊢
      exact mk_flst (h1.up le) (many xs vs h2 (by unfold D.und at u; exact u))
    | fdk ks xs =>
      obtain ⟨a, ob, ws, rfl, h1, h2, h3⟩ := relD_fdk rd
      simp only [frz] at u ⊢
      unfold RelD
      exact ⟨a, ob, ws, rfl, le.frz a _ _ h1, h2, many xs _ h3 (by unfold D.und at u; exact u)⟩
    | fins c fs xs =>
      obtain ⟨a, C, dx, ws, rfl, h0, h1, h2, h3, h4⟩ := relD_fins rd
      simp only [frz] at u ⊢
      unfold RelD
      exact ⟨a, C, dx, ws, rfl, le.fz _ h0, (le.set _ h0).trans h1, h2, h3, many xs _ h4 (by unfold D.und at u; exact u)⟩
    | exc c d =>
      obtain ⟨a, C, fI, Dq, dd, w, rfl, h1, h2, h3, h4, h5, h6⟩ := relD_exc rd
      simp only [frz] at u ⊢
      unfold RelD
      exact ⟨a, C, fI, Dq, dd, w, rfl, le.fz _ h1, le.fz _ h2, (le.set _ h1).trans h3, (le.set _ h2).trans h4, h5, ih d w h6 (by unfold D.und at u; exact u)⟩
    | clo _ _ => exact (relD_clo rd).elim
    | loc i =>
      obtain ⟨a, rfl, h1⟩ := relD_loc rd
      simp only [frz] at u ⊢
      by_cases hi : i < n
      · rw [if_pos hi] at u ⊢
        exact mk_loc (by rw [List.getElem?_take_of_lt hi]; exact h1)
      · rw [if_neg hi] at u ⊢
        have him : i < s'.length := by rw [← rs'.len]; exact (List.getElem?_eq_some_iff.mp h1).1
        have ha : a ∈ μ'.drop n := by
          refine List.mem_iff_getElem?.mpr ⟨i - n, ?_⟩
          rw [List.getElem?_drop]
          rw [show n + (i - n) = i by omega]
          exact h1
        have hφ : (true, a) ∈ (μ'.drop n).map (fun a => (true, a)) ++ φ' := List.mem_append_left _ (List.mem_map_of_mem (f := fun a => (true, a)) ha)
        cases e : s'[i]? with
        | none => rw [List.getElem?_eq_getElem him] at e; cases e
        | some c =>
          rw [e] at u
          have hc := rs'.cell i c a e h1
          cases c with
          | lst xs =>
            obtain ⟨vs, k1, k2⟩ := hc
            exact mk_flst (.inl ⟨hφ, by rw [keep2 a (fun ws z => by rw [k1] at z; cases z)]; exact k1⟩) (many xs vs k2 (by unfold D.und at u; exact u))
          | dk kvs =>
            obtain ⟨ws, k1, k2, k3⟩ := hc
            obtain ⟨ob, e2⟩ := g2 a (List.mem_filter.mpr ⟨ha, by simpa using ⟨ws, k1⟩⟩) ws k1
            unfold RelD
            refine ⟨a, ob, ws, rfl, e2, k2, ?_⟩
            have := many (kvs.map (·.2)) _ k3 (by unfold D.und at u; rw [List.map_map]; exact u)
            rw [List.map_map] at this
            exact this
          | lk kvs =>
            obtain ⟨ob, ws, k1, k2, k3⟩ := hc
            unfold RelD
            refine ⟨a, ob, ws, rfl, (keep2 a (fun ws z => by rw [k1] at z; cases z)).trans k1, k2, ?_⟩
            have := many (kvs.map (·.2)) _ k3 (by unfold D.und at u; rw [List.map_map]; exact u)
            rw [List.map_map] at this
            exact this
          | ins c fs =>
            obtain ⟨C, dx, ws, k1, k0, k2, k3⟩ := hc
            unfold RelD
            refine ⟨a, C, dx, ws, rfl, hφ, by rw [keep2 a (fun ws z => by rw [k1] at z; cases z)]; exact k1, k0, k2, ?_⟩
            have := many (fs.map (·.2)) _ k3 (by unfold D.und at u; rw [List.map_map]; exact u)
            rw [List.map_map] at this
            exact this
/-- a call's end, swept -/
theorem sweep_fin {W : WX} {σ : L2.St} {s s' : Sto} {d : D} {Q : V → Hp → Prop} (rs : RelS K φ μ H s) (h : Fin K W (RelD K) φ μ H σ (sweep s (.ok d s')) Q) (l : Le K φ μ H φ' μ' H') (rs' : RelS K φ' μ' H' s') {v : V} (rd : RelD K φ' μ' H' d v) : Lk (Q v) H' := by
  unfold sweep at h
  simp only at h
  split at h
  · rename_i c
    obtain ⟨c1, c2, c3⟩ := c
    obtain ⟨q1, q2⟩ := rs.cut l rs' c2 c3
    exact retire q1 rs' fun φ2 H2 l2 rs2 k => .done (h φ2 _ H2 v (q2.trans l2) rs2 (k 9 d v rd c1))
  · exact .done (h φ' μ' H' v l rs' rd)
/-! ### a def of the text -/
section
variable {P : Program} {w : World} {K : PySem.W.Frag} {mg : Str → Option Value} {base : Heap}
theorem def_run {k : Nat} {f : Addr} {x qual : Str} {params : Arguments} {body : List Stmt} {scope : Scope} {dvs : List V} {kws : List (Str × V)} {fd : PySem.FuncData} {N ps : List Str} (D : FunD K x qual params body scope dvs kws f fd) (S : FnScope N ps scope)
    {A : Around} {out : List PySem.Env} {s : Shared} {H : Hp} {args : Args} {us : List Value} {vs : List V} {Q : VK} {E : XK} (room : Room (k + 1) A) (ent : Env0 P w K mg base A out s H) (bnd : BindsTo s fd args (ps.zip us)) (val : Vals vs us) (ln : vs.length = ps.length)
    (run : ∀ (cd : Value), (∃ oc od osl fdd, K.lookup f = some ⟨oc, od, .func fdd, osl⟩ ∧ fdd.code = cd) → PySem.W.codeIn K cd qual = true → Room k (A.deeper (envOfC qual scope s.heap.objs.size f cd)) →
      ∃ t, PSs (cxOf (L2.CX P w) P w K mg base N qual scope f cd A out s H E) body t ∧ t { nx := fun _ G => Lk (Q .non) G, rt := fun v G => Lk (Q v) G } (L2.start N vs) H) : codeAny (model P w) A (.call (.ref f) args) (CR (L2.CX P w) out P w H s Q E) s := by
  obtain ⟨c0, o0, dV, kV, doc, pm, an, cd, ct, sl, e, look, code, _, _⟩ := D.ex
  subst e
  have same : K.In s.heap := ent.mod.kin.keeps fun b u z => (ent.bs b u z).1
  have free : s.heap.NoLimit := ent.mod.nolimit.keeps fun b u z => (ent.bs b u z).1
  refine PySem.codeAny_call_function room.depth (same _ _ look) rfl S.co S.gen rfl (PySem.W.codeRec_of same code) (bnd _ _ _ _ (wpAny_newFunctionEnv_cells S.kind (fun ⟨n, u⟩ hn => ?_) fun en hen s2 entered => ?_))
  · exact (S.par n (List.of_mem_zip hn).1).imp id fun z => ⟨z, PySem.W.cellsFrom_some _ _ _ (.inl z)⟩
  · subst hen
    refine ⟨free.keeps entered.toInCall.keep, codeAny_func ?_⟩
    obtain ⟨t, pt, qt⟩ := run cd ⟨_, _, _, _, look, rfl⟩ code (room.deeper _)
    have inv := inv_start (CX := L2.CX P w) (cd := cd) (E := E) S room.hd ent ln val entered
    refine wpAny_mono (pt.run [] s2 (L2.start N vs) H _ inv qt) (fun fl s3 z => ?_) fun _ _ z => z
    cases fl with
    | brk => obtain ⟨_, _, _, z⟩ := z; exact z.elim
    | cont => obtain ⟨_, _, _, z⟩ := z; exact z.elim
    | next =>
      obtain ⟨τ, G0, J0, z⟩ := z
      obtain ⟨G, J, z⟩ := z.run J0
      exact ⟨V.non, G, J.os, J.bare, J.base, J.hok, rfl, z⟩
    | ret u =>
      obtain ⟨v, τ, G0, J0, rv, z⟩ := z
      obtain ⟨G, J, z⟩ := z.run J0
      exact ⟨v, G, J.os, J.bare, J.base, J.hok, rv, z⟩
theorem FnG.of_def {k : Nat} {f : Addr} {x qual : Str} {params : Arguments} {body : List Stmt} {scope : Scope} {dvs : List V} {kws : List (Str × V)} {fd : PySem.FuncData} {N ps : List Str} {sp : Sp} (D : FunD K x qual params body scope dvs kws f fd) (S : FnScope N ps scope)
    (ln : ∀ vs H Q E, sp vs H Q E → vs.length = ps.length)
    (run : ∀ (cd : Value), (∃ oc od osl fdd, K.lookup f = some ⟨oc, od, .func fdd, osl⟩ ∧ fdd.code = cd) → PySem.W.codeIn K cd qual = true → ∀ (A : Around) (out : List PySem.Env) (s : Shared) (H : Hp) (vs : List V) (Q : VK) (E : XK), A.guards = some [] → Room k (A.deeper (envOfC qual scope s.heap.objs.size f cd)) → sp vs H Q E →
      ∃ t, PSs (cxOf (L2.CX P w) P w K mg base N qual scope f cd A out s H E) body t ∧ t { nx := fun _ G => Lk (Q .non) G, rt := fun v G => Lk (Q v) G } (L2.start N vs) H) : FnG P w K mg base (k + 1) f fd ps sp :=
  ⟨ln, fun A out s H args us vs Q E gd room ent bnd val q => def_run D S room ent bnd val (ln _ _ _ _ q) fun cd c1 c2 rm => run cd c1 c2 A out s H vs Q E gd rm q⟩
/-! ### constants of the module -/
mutual
/-- does the value stand for the tree, by what the text's objects are -/
def konB (K : PySem.W.Frag) : D → Value → Bool
  | .non, u => (match u with
    | .none => true
    | _ => false)
  | .bl b, u => (match u with
    | .bool c => b == c
    | _ => false)
  | .int i, u => (match u with
    | .int j _ => decide (i = j)
    | _ => false)
  | .str x, u => (match u with
    | .str y _ => decide (x = y)
    | _ => false)
  | .tup ds, u => (match u with
    | .ref a => (match K.lookup a with
      | some ⟨.type c, _, .seq its _, _⟩ => decide (c = "tuple") && decide (its.size ≤ sizeLine) && konL K ds its.toList
      | _ => false)
    | _ => false)
  | .flst ds, u => (match u with
    | .ref a => (match K.lookup a with
      | some ⟨.type c, none, .seq its _, sl⟩ => decide (c = "list") && decide (its.size ≤ sizeLine) && sl.isEmpty && konL K ds its.toList
      | _ => false)
    | _ => false)
  | .loc _, _ => false
  | .fdk _ _, _ => false
  | .fins _ _ _, _ => false
  | .exc _ _, _ => false
  | .clo _ _, _ => false
def konL (K : PySem.W.Frag) : List D → List Value → Bool
  | [], [] => true
  | d :: ds, u :: us => konB K d u && konL K ds us
  | _, _ => false
end
mutual
theorem konB_ok {K : PySem.W.Frag} : ∀ {d : D} {u : Value}, konB K d u = true → ∃ v, RelV v u ∧ ∀ φ μ H, RelD K φ μ H d v
  | .non, u, h => by
    cases u <;> first | (unfold konB at h; cases h; done) | exact ⟨.non, rfl, fun _ _ _ => mk_non⟩
  | .bl b, u, h => by
    cases u <;> first | (unfold konB at h; cases h; done) | skip
    unfold konB at h
    exact ⟨.bl b, by rw [eq_of_beq h]; rfl, fun _ _ _ => mk_bl⟩
  | .int b, u, h => by
    cases u <;> first | (unfold konB at h; cases h; done) | skip
    unfold konB at h
    exact ⟨.int b, ⟨_, by rw [of_decide_eq_true h]⟩, fun _ _ _ => mk_int⟩
  | .str b, u, h => by
    cases u <;> first | (unfold konB at h; cases h; done) | skip
    unfold konB at h
    exact ⟨.str b, ⟨_, by rw [of_decide_eq_true h]⟩, fun _ _ _ => mk_str⟩
  | .tup ds, u, h => by
    simp only [konB] at h
    split at h <;> first | cases h | skip
    rename_i a
    split at h <;> first | cases h | skip
    rename_i c od its n sl look
    obtain ⟨h1, h2, h3⟩ := and3 h
    obtain ⟨vs, r, q⟩ := konL_ok h3
    exact ⟨.ref a, rfl, fun φ μ H => mk_tup (.inr ⟨_, its, n, look, congrArg Value.type (of_decide_eq_true h1), rfl, of_decide_eq_true h2, r⟩) (q φ μ H)⟩
  | .flst ds, u, h => by
    simp only [konB] at h
    split at h <;> first | cases h | skip
    rename_i a
    split at h <;> first | cases h | skip
    rename_i c its n sl look
    obtain ⟨h1, h2, h4, h3⟩ := and4 h
    obtain ⟨vs, r, q⟩ := konL_ok h3
    have e1 := of_decide_eq_true h1
    have e2 := Array.isEmpty_iff.mp h4
    subst e1 e2
    exact ⟨.ref a, rfl, fun φ μ H => mk_flst (.inr (.inr ⟨its, n, look, of_decide_eq_true h2, r⟩)) (q φ μ H)⟩
  | .loc _, _, h => by unfold konB at h; cases h
  | .fdk _ _, _, h => by unfold konB at h; cases h
  | .fins _ _ _, _, h => by unfold konB at h; cases h
  | .exc _ _, _, h => by unfold konB at h; cases h
  | .clo _ _, _, h => by unfold konB at h; cases h
theorem konL_ok {K : PySem.W.Frag} : ∀ {ds : List D} {us : List Value}, konL K ds us = true → ∃ vs, Vals vs us ∧ ∀ φ μ H, RelL K φ μ H ds vs
  | [], [], _ => ⟨[], .nil, fun _ _ _ => .nil⟩
  | [], _ :: _, h => by unfold konL at h; cases h
  | _ :: _, [], h => by unfold konL at h; cases h
  | d :: ds, u :: us, h => by
    unfold konL at h
    obtain ⟨h1, h2⟩ := and2 h
    obtain ⟨v, r, q⟩ := konB_ok h1
    obtain ⟨vs, r2, q2⟩ := konL_ok h2
    exact ⟨v :: vs, .cons r r2, fun φ μ H => .cons (q φ μ H) (q2 φ μ H)⟩
end
/-- the module's name stands for the tree -/
def gloB (K : PySem.W.Frag) (p : Str × D) : Bool := match PySem.W.nsIn K mainGlobals p.1 with
  | some (some u) => konB K p.2 u
  | _ => false
theorem gloB_ok {K : PySem.W.Frag} {h : Heap} {mg : Str → Option Value} (X : K.In h) (G : h.Ns mainGlobals mg) {p : Str × D} (c : gloB K p = true) : ∃ u v, mg p.1 = some u ∧ RelV v u ∧ ∀ φ μ H, RelD K φ μ H p.2 v := by
  unfold gloB at c
  split at c <;> first | cases c | skip
  rename_i u e
  obtain ⟨v, r, q⟩ := konB_ok c
  exact ⟨u, v, PySem.W.mg_of X G e, r, q⟩
/-- one function of the table -/
structure FN where
  d : He.DefD
  N : List Str
  ps : List Str
  fd : FDef
  kb : List (List Str × List Nat) := []
  /-- it makes lambdas -/
  lm : Option Str := none
  /-- it is handed a lambda; it is a property's getter -/
  th : Bool := false
  pr : Bool := false
def FN.KB1 (n : FN) (q : List Str × List Nat) : Prop := ∀ (kV doc pm : Value) (an : Option Addr) (cdv ct : Value) (us ws : List Value), us.length = q.1.length → permOf us q.2 = some ws → bindArgs (PySem.W.fnOf n.d.name n.d.qual n.d.params n.d.body n.d.scope .none kV doc pm an cdv ct) ⟨[], q.1.zip us⟩ = pure (n.ps.zip ws)
theorem kb_of {K : PySem.W.Frag} {x qual : Str} {params : Arguments} {body : List Stmt} {scope : Scope} {kws : List (Str × V)} {f : Addr} {fd : PySem.FuncData} {ps : List Str} {q : List Str × List Nat} (D : FunD K x qual params body scope [] kws f fd)
    (h : ∀ (kV doc pm : Value) (an : Option Addr) (cdv ct : Value) (us ws : List Value), us.length = q.1.length → permOf us q.2 = some ws → bindArgs (PySem.W.fnOf x qual params body scope .none kV doc pm an cdv ct) ⟨[], q.1.zip us⟩ = pure (ps.zip ws)) : KB K fd ps q := by
  obtain ⟨c0, o0, dV, kV, doc, pm, an, cd, ct, sl, e, look, code, hD, hK⟩ := D.ex
  subst e
  rcases hD with ⟨_, rfl⟩ | ⟨z, _⟩
  · exact fun s us ws _ l e => .of_eq (h kV doc pm an cd ct us ws l e)
  · exact absurd rfl z
def FN.B (n : FN) : Prop := ∀ (kV doc pm : Value) (an : Option Addr) (cdv ct : Value) (us : List Value), us.length = n.ps.length → bindArgs (PySem.W.fnOf n.d.name n.d.qual n.d.params n.d.body n.d.scope .none kV doc pm an cdv ct) ⟨us, []⟩ = pure (n.ps.zip us)
abbrev inS : Str := "__init__"
/-- the class whose __init__ it is -/
def FN.clOf (n : FN) : Option Str := match n.d.at_.2 with
  | some m => if m = inS then some n.d.at_.1 else none
  | none => none
/-- where it stands -/
def FN.At (K : PySem.W.Frag) (mg : Str → Option Value) (n : FN) (fa : Addr) : Prop := match n.d.at_.2 with
  | none => mg n.d.at_.1 = some (.ref fa)
  | some m => ∃ C, ClsAt K n.d.at_.1 C ∧ if m = inS then mg n.d.at_.1 = some (.ref C) ∧ Mk K C fa else if n.pr = true then Cls K C ∧ ∃ p, PropOf K C m p fa else Cls K C ∧ Meth K C m fa
/-- what a table's row asks -/
structure FN.Ok (T : Tab) (n : FN) : Prop where
  cl : n.fd.cl = n.clOf
  dfl : n.d.dfl = []
  sc : FnScope n.N n.ps n.d.scope
  mt : mtSs T ⟨n.N, n.d.scope, fun _ => true, n.lm, n.th, true⟩ n.fd.body n.d.body = true
  nN : n.fd.names = n.N.length
  nP : n.fd.ps = n.ps.length
  bnd : n.B
  kbd : ∀ q ∈ n.kb, n.KB1 q
/-- a lambda: what it captures, what it tells -/
structure LamRow where
  caps : List Str
  e : E
def LamRow.fd (r : LamRow) : FDef := ⟨r.caps.length, r.caps.length, .cons (.ret r.e) .nil, none⟩
def tab0 (tb : List FN) (frees : List Str) (keep : Nat → Bool) (glos : List (Str × D)) (flds : List (Str × Str)) (lams : List LamRow) (errs : List String) : Tab where
  frees := frees
  fname f := (tb[f]?).bind fun n => match n.d.at_.2 with
    | none => if n.th = true then none else some n.d.at_.1
    | some _ => none
  fdef f := match tb[f]? with
    | some n => some n.fd
    | none => (lams[f - tb.length]?).map LamRow.fd
  keep := keep
  glos := glos
  kws f := ((tb[f]?).map (·.kb)).getD []
  flds := flds
  mkr f := (tb[f]?).bind (·.clOf)
  mth f := (tb[f]?).bind fun n => match n.d.at_.2 with
    | some m => if m = inS ∨ n.pr = true then none else some (n.d.at_.1, m)
    | none => none
  prp f := (tb[f]?).bind fun n => match n.d.at_.2 with
    | some m => if m ≠ inS ∧ n.pr = true then some (n.d.at_.1, m) else none
    | none => none
  errs := errs
/-- the table: functions, then lambdas -/
def tabOf (tb : List FN) (frees : List Str) (keep : Nat → Bool) (glos : List (Str × D)) (flds : List (Str × Str) := []) (lams : List LamRow := []) (errs : List String := []) : Tab :=
  { tab0 tb frees keep glos flds lams errs with
    thk := fun f => (tb[f]?).bind fun n => match n.d.at_.2 with
      | none => if n.th = true then some n.d.at_.1 else none
      | some _ => none
    lamOk := fun n ps b sc => match tb[n]? with
      | some _ => false
      | none => match lams[n - tb.length]? with
        | some r => noPars ps && lamScB sc r.caps && mtE (tab0 tb frees keep glos flds lams errs) .v ⟨r.caps, sc, fun _ => false, none, false, false⟩ r.e b
        | none => false
    lamC := fun n => match lams[n - tb.length]? with
      | some r => r.caps
      | none => [] }
theorem relE_start {xc : XcT} (hx : xc.th = none) {φ : Fz} {μ : List Addr} {H : Hp} {ds : List D} {vs : List V} {N : List Str} (rl : RelL K φ μ H ds vs) : RelE xc K φ μ H (ds.map some ++ List.replicate (N.length - ds.length) none) (L2.start N vs) := by
  have hl := rl.length
  unfold L2.start
  refine ⟨by simp [hl], fun i d e _ => ?_, fun t e => by rw [hx] at e; cases e⟩
  by_cases hi : i < ds.length
  · rw [List.getElem?_append_left (by simpa using hi), List.getElem?_map] at e
    cases q : ds[i]? with
    | none => rw [q] at e; cases e
    | some d' =>
      rw [q] at e
      cases e
      obtain ⟨v, e1, e2⟩ := rl.get q
      exact ⟨v, by rw [List.getElem?_append_left (by simpa [← hl] using hi), List.getElem?_map, e1]; rfl, e2⟩
  · rw [List.getElem?_append_right (by simpa using hi), List.getElem?_replicate] at e
    split at e <;> cases e
theorem FnG.imp {k : Nat} {f : Addr} {fd : PySem.FuncData} {ps : List Str} {sp sp' : Sp} (F : FnG P w K mg base k f fd ps sp) (h : ∀ vs H Q E, sp' vs H Q E → sp vs H Q E) : FnG P w K mg base k f fd ps sp' :=
  ⟨fun vs H Q E q => F.len vs H Q E (h _ _ _ _ q), fun A out s H args us vs Q E gd room ent bnd val q => F.run A out s H args us vs Q E gd room ent bnd val (h _ _ _ _ q)⟩
/-- a body, as it is run -/
def spR (K : PySem.W.Frag) (o : Orc) (fd : FDef) : Sp := fun vs H Q E => ∃ φ μ s ds, RelS K φ μ H s ∧ RelL K φ μ H ds vs ∧ ds.length = fd.ps ∧ Fin K (fun c d _ H' => E c d H') (RelD K) φ μ H [] (runF o fd ds s) fun v H' => Lk (Q v) H'
theorem runX_plain {o : Orc} {fd : FDef} {ds : List D} {s : Sto} (h : fd.cl = none) : runX o fd ds s = if ds.length = fd.ps then runF o fd ds s else .no := by unfold runX; rw [h]
theorem runX_mk {o : Orc} {fd : FDef} {ds : List D} {s : Sto} {c : Str} (h : fd.cl = some c) : runX o fd ds s = if ds.length + 1 = fd.ps then runM o fd c ds s else .no := by unfold runX; rw [h]
/-- an end that is swept, or kept -/
theorem keep_fin {φ : Fz} {μ : List Addr} {H : Hp} {W : WX} {σ : L2.St} {s : Sto} {b : Bool} {r : R D} {Q : V → Hp → Prop} (rs : RelS K φ μ H s) (h : Fin K W (RelD K) φ μ H σ (if b = true then r else sweep s r) Q) : Fin K W (RelD K) φ μ H σ r fun v H' => Lk (Q v) H' := by
  cases r with
  | no => cases b <;> exact h.elim
  | ex c v s' => cases b <;> exact h
  | ok d s' =>
    intro φ' μ' H' v l rs' rd
    cases b with
    | true => exact .done (h φ' μ' H' v l rs' rd)
    | false => exact sweep_fin rs h l rs' rd
theorem spF_R {F : Nat → Option FDef} {keep : Nat → Bool} {k f : Nat} {fd : FDef} (hF : F f = some fd) (hc : fd.cl = none) {vs : List V} {H : Hp} {Q : VK} {E : XK} (h : spF K (callN F keep (k + 1)) f vs H Q E) : spR K (callN F keep k) fd vs H Q E := by
  obtain ⟨φ, μ, s, ds, rs, rl, h⟩ := h
  have e : callN F keep (k + 1) f ds s = if keep f = true then runX (callN F keep k) fd ds s else sweep s (runX (callN F keep k) fd ds s) := by rw [callN, hF]
  rw [e, runX_plain hc] at h
  have h' := keep_fin rs h
  by_cases hl : ds.length = fd.ps
  · rw [if_pos hl] at h'
    exact ⟨φ, μ, s, ds, rs, rl, hl, h'⟩
  · rw [if_neg hl] at h'
    exact h'.elim
theorem spF_M {F : Nat → Option FDef} {keep : Nat → Bool} {k f : Nat} {fd : FDef} {c : Str} {C : Addr} (hF : F f = some fd) (hc : fd.cl = some c) (hC : ClsAt K c C) : MkSp K (callN F keep (k + 1)) f C (spR K (callN F keep k) fd) := by
  intro vs H Q E h x dx hx hdx ne
  obtain ⟨φ, μ, s, ds, rs, rl, h⟩ := h
  have e : callN F keep (k + 1) f ds s = if keep f = true then runX (callN F keep k) fd ds s else sweep s (runX (callN F keep k) fd ds s) := by rw [callN, hF]
  rw [e, runX_mk hc] at h
  have h' := keep_fin rs h
  by_cases hl : ds.length + 1 = fd.ps
  · rw [if_pos hl] at h'
    have hx1 : upd H dx (.own x) x = none := by rw [upd_ne (Ne.symm ne)]; exact hx
    have l1 : Le K φ μ H φ μ (upd H dx (.own x)) := Le.new hdx rs.here
    have rs1 : RelS K φ μ (upd H dx (.own x)) s := rs.beside hdx
    have l2 : Le K φ μ (upd H dx (.own x)) φ (μ ++ [x]) (upd (upd H dx (.own x)) x (.ins C dx [])) := (Le.new hx1 rs1.here).trans Le.grow
    have rs2 := rs1.laid (o := .ins C dx []) (c := .ins c []) hx1 ⟨C, dx, [], upd_same, hC, .nil⟩
    have hloc : (μ ++ [x])[s.length]? = some x := by rw [← rs.len]; simp
    refine ⟨φ, μ ++ [x], s ++ [.ins c []], .loc s.length :: ds, rs2, .cons (mk_loc hloc) (rl.up (l1.trans l2)), hl, ?_⟩
    unfold runM at h'
    revert h'
    generalize runF (callN F keep k) fd (.loc s.length :: ds) (s ++ [.ins c []]) = r
    intro h'
    cases r with
    | no => exact h'.elim
    | ex c' v s' => exact fun φ' μ' H' cls dv l rs' rx => h' φ' μ' H' cls dv ((l1.trans l2).trans l) rs' rx
    | ok d s' =>
      intro φ' μ' H' v l rs' rd
      cases d <;> first | exact h'.elim | skip
      refine .done ⟨relD_non rd, ?_⟩
      exact h' φ' μ' H' (.ref x) ((l1.trans l2).trans l) rs' (mk_loc (get_pre l.pl hloc))
  · rw [if_neg hl] at h'
    exact h'.elim
/-- .. of a def that is handed a lambda -/
def spRT (K : PySem.W.Frag) (o : Orc) (fd : FDef) (t : Th) : Sp := fun vs H Q E => ∃ φ μ s ds0 ds, RelS K φ μ H s ∧ RelL K φ μ H ds0 t.vs ∧ RelL K φ μ H ds vs ∧ H t.c = some (LamX.CodeO t.c t.q) ∧ ds.length + 1 = fd.ps ∧ Fin K (fun c d _ H' => E c d H') (RelD K) φ μ H [] (runF o fd (.clo t.n ds0 :: ds) s) fun v H' => Lk (Q v) H'
theorem spT_R {F : Nat → Option FDef} {keep : Nat → Bool} {k f : Nat} {fd : FDef} {t : Th} (hF : F f = some fd) (hc : fd.cl = none) {vs : List V} {H : Hp} {Q : VK} {E : XK} (h : spT K (callN F keep (k + 1)) f t vs H Q E) : spRT K (callN F keep k) fd t vs H Q E := by
  obtain ⟨φ, μ, s, ds0, ds, rs, rl0, rl, hk, h⟩ := h
  have e : callN F keep (k + 1) f (.clo t.n ds0 :: ds) s = if keep f = true then runX (callN F keep k) fd (.clo t.n ds0 :: ds) s else sweep s (runX (callN F keep k) fd (.clo t.n ds0 :: ds) s) := by rw [callN, hF]
  rw [e, runX_plain hc] at h
  have h' := keep_fin rs h
  by_cases hl : (D.clo t.n ds0 :: ds).length = fd.ps
  · rw [if_pos hl] at h'
    exact ⟨φ, μ, s, ds0, ds, rs, rl0, rl, hk, hl, h'⟩
  · rw [if_neg hl] at h'
    exact h'.elim
/-- the functions of the table, to a depth -/
structure Lv (P : Program) (w : World) (K : PySem.W.Frag) (mg : Str → Option Value) (base : Heap) (T : Tab) (o : Orc) (k : Nat) : Prop where
  call : ∀ f x, T.fname f = some x → ∃ fa fd ps, mg x = some (.ref fa) ∧ PySem.W.keepIn K (.ref fa) = true ∧ Binds K fd ps [] ∧ (∀ q ∈ T.kws f, KB K fd ps q) ∧ FnG P w K mg base (2 * k) fa fd ps (spF K o f)
  mkr : ∀ f x, T.mkr f = some x → ∃ C fa fd ps spI, mg x = some (.ref C) ∧ Mk K C fa ∧ Binds K fd ps [] ∧ FnG P w K mg base (2 * k) fa fd ps spI ∧ MkSp K o f C spI
  mth : ∀ f c m, T.mth f = some (c, m) → ∃ C fa fd ps, ClsAt K c C ∧ Cls K C ∧ Meth K C m fa ∧ Binds K fd ps [] ∧ FnG P w K mg base (2 * k) fa fd ps (spF K o f)
  prp : ∀ f c n, T.prp f = some (c, n) → ∃ C p fa fd ps, ClsAt K c C ∧ Cls K C ∧ PropOf K C n p fa ∧ Binds K fd ps [] ∧ FnG P w K mg base (2 * k) fa fd ps (spF K o f)
  thk : ∀ f x, T.thk f = some x → ∃ fa fd ps, mg x = some (.ref fa) ∧ PySem.W.keepIn K (.ref fa) = true ∧ Binds K fd ps [] ∧ FnT T P w K mg base (2 * k) fa fd ps (spT K o f)
  lamg : ∀ n ps b sc, T.lamOk n ps b sc = true → LamG P w K mg base (2 * k) ps b sc (T.lamC n) (spF K o n)
/-- what is told of the error classes -/
def ErrF (P : Program) (K : PySem.W.Frag) (mg : Str → Option Value) (errs : List String) : Prop := ∀ c ∈ errs, (∃ C fI Dq, ErrAt K c C fI Dq ∧ mg (Str.ofString c) = some (.ref C) ∧ ErrFn P K fI Dq) ∧ IsX K c
theorem tab_name {tb : List FN} {frees : List Str} {keep : Nat → Bool} {glos : List (Str × D)} {flds : List (Str × Str)} {lams : List LamRow} {errs : List String} {f : Nat} {x : Str} (h : (tabOf tb frees keep glos flds lams errs).fname f = some x) : ∃ n, tb[f]? = some n ∧ n.d.at_.2 = none ∧ n.d.at_.1 = x := by
  unfold tabOf tab0 at h
  simp only [Option.bind_eq_some_iff] at h
  obtain ⟨n, e1, e2⟩ := h
  split at e2 <;> first | (cases e2; done) | skip
  rename_i z
  split at e2 <;> first | (cases e2; done) | skip
  exact ⟨n, e1, z, Option.some.inj e2⟩
theorem tab_thk {tb : List FN} {frees : List Str} {keep : Nat → Bool} {glos : List (Str × D)} {flds : List (Str × Str)} {lams : List LamRow} {errs : List String} {f : Nat} {x : Str} (h : (tabOf tb frees keep glos flds lams errs).thk f = some x) : ∃ n, tb[f]? = some n ∧ n.d.at_.2 = none ∧ n.d.at_.1 = x ∧ n.th = true := by
  unfold tabOf at h
  simp only [Option.bind_eq_some_iff] at h
  obtain ⟨n, e1, e2⟩ := h
  split at e2 <;> first | (cases e2; done) | skip
  rename_i z
  split at e2 <;> first | (cases e2; done) | skip
  rename_i c
  exact ⟨n, e1, z, Option.some.inj e2, c⟩
theorem tab_mkr {tb : List FN} {frees : List Str} {keep : Nat → Bool} {glos : List (Str × D)} {flds : List (Str × Str)} {lams : List LamRow} {errs : List String} {f : Nat} {x : Str} (h : (tabOf tb frees keep glos flds lams errs).mkr f = some x) : ∃ n, tb[f]? = some n ∧ n.d.at_.2 = some inS ∧ n.d.at_.1 = x ∧ n.clOf = some x := by
  unfold tabOf tab0 at h
  simp only [Option.bind_eq_some_iff] at h
  obtain ⟨n, e1, e2⟩ := h
  have e3 := e2
  unfold FN.clOf at e2
  split at e2 <;> first | (cases e2; done) | skip
  rename_i m z
  split at e2 <;> first | (cases e2; done) | skip
  rename_i c
  exact ⟨n, e1, by rw [z, c], Option.some.inj e2, e3⟩
theorem tab_mth {tb : List FN} {frees : List Str} {keep : Nat → Bool} {glos : List (Str × D)} {flds : List (Str × Str)} {lams : List LamRow} {errs : List String} {f : Nat} {c m : Str} (h : (tabOf tb frees keep glos flds lams errs).mth f = some (c, m)) : ∃ n, tb[f]? = some n ∧ n.d.at_.2 = some m ∧ n.d.at_.1 = c ∧ m ≠ inS ∧ ¬ n.pr = true := by
  unfold tabOf tab0 at h
  simp only [Option.bind_eq_some_iff] at h
  obtain ⟨n, e1, e2⟩ := h
  split at e2 <;> first | (cases e2; done) | skip
  rename_i m' z
  split at e2 <;> first | (cases e2; done) | skip
  rename_i c'
  cases e2
  exact ⟨n, e1, z, rfl, fun q => c' (.inl q), fun q => c' (.inr q)⟩
theorem tab_prp {tb : List FN} {frees : List Str} {keep : Nat → Bool} {glos : List (Str × D)} {flds : List (Str × Str)} {lams : List LamRow} {errs : List String} {f : Nat} {c m : Str} (h : (tabOf tb frees keep glos flds lams errs).prp f = some (c, m)) : ∃ n, tb[f]? = some n ∧ n.d.at_.2 = some m ∧ n.d.at_.1 = c ∧ m ≠ inS ∧ n.pr = true := by
  unfold tabOf tab0 at h
  simp only [Option.bind_eq_some_iff] at h
  obtain ⟨n, e1, e2⟩ := h
  split at e2 <;> first | (cases e2; done) | skip
  rename_i m' z
  split at e2 <;> first | (cases e2; done) | skip
  rename_i c'
  cases e2
  exact ⟨n, e1, z, rfl, c'.1, c'.2⟩
theorem tab_def {tb : List FN} {frees : List Str} {keep : Nat → Bool} {glos : List (Str × D)} {flds : List (Str × Str)} {lams : List LamRow} {errs : List String} {f : Nat} {n : FN} (e : tb[f]? = some n) : (tabOf tb frees keep glos flds lams errs).fdef f = some n.fd := by unfold tabOf tab0; simp [e]
/-- what is known of a function that makes lambdas -/
structure LmAt (K : PySem.W.Frag) (base : Heap) (mg : Str → Option Value) (qual : Str) (fa : Addr) (x : Str) : Prop where
  mem : x ∈ lamMakers
  glo : (He.Fa.glo x).ok K = true
  qual : qual = x
  fa : He.fAd K (x, none) = fa
  tb : LamX.TabB base mg (He.cT K (x, none)).1 (He.cT K (x, none)).2
  uq : ∀ y ∈ lamMakers, (He.Fa.glo y).ok K = true → (He.cT K (y, none)).2 = (He.cT K (x, none)).2 → y = x
theorem LmAt.ok {K : PySem.W.Frag} {base : Heap} {mg : Str → Option Value} {qual : Str} {fa : Addr} {x : Str} {cd : Value} (l : LmAt K base mg qual fa x) (h : ∃ oc od osl fdd, K.lookup fa = some ⟨oc, od, .func fdd, osl⟩ ∧ fdd.code = cd) (hc : PySem.W.codeIn K cd qual = true) : LamOk K base mg (qual ++ (".<locals>." : Str)) cd x := by
  refine ⟨l.mem, l.glo, by rw [l.qual] <;> rfl, ?_, l.tb, l.uq⟩
  obtain ⟨oc, od, osl, fdd, lk, rfl⟩ := h
  obtain ⟨c, e⟩ := He.codeIn_ref hc
  have lk' : K.lookup (He.fAd K (x, none)) = some ⟨oc, od, .func fdd, osl⟩ := by rw [l.fa]; exact lk
  have z := He.codeOf_eq lk' e
  rw [e]
  show Value.ref c = .ref (He.codeOf K (x, none))
  rw [z]
/-- where a function's body runs -/
theorem body_good {xc : XcT} {T : Tab} {o : Orc} {k : Nat} {n : FN} {fa : Addr} {cd : Value} {A : Around} {out : List PySem.Env} {s : Shared} {H : Hp} {E : XK} (O : n.Ok T) (L : Lv P w K mg base T o k)
    (fr : ∀ x ∈ T.frees, mg x = none) (gl : ∀ p ∈ T.glos, ∃ u v, mg p.1 = some u ∧ RelV v u ∧ ∀ φ μ H, RelD K φ μ H p.2 v) (fl : ∀ c f, (c, f) ∈ T.flds → ∃ C, ClsAt K c C ∧ Cls K C ∧ NoAttr K C f) (er : ErrF P K mg T.errs) (lm : ∀ x, n.lm = some x → LmAt K base mg n.d.qual fa x)
    (cdl : ∃ oc od osl fdd, K.lookup fa = some ⟨oc, od, .func fdd, osl⟩ ∧ fdd.code = cd) (cdi : PySem.W.codeIn K cd n.d.qual = true) (gd : A.guards = some []) (room : Room (2 * k + 1) (A.deeper (envOfC n.d.qual n.d.scope s.heap.objs.size fa cd)))
    (ht : xc.th ≠ none → n.th = true) (hc : ∀ t, xc.th = some t → ClIn T t (frs out) H s.heap) :
    Good T xc o (fun c d _ H' => E c d H') k ⟨n.N, n.d.scope, fun _ => true, n.lm, n.th, true⟩ (cxOf (L2.CX P w) P w K mg base n.N n.d.qual n.d.scope fa cd A out s H E) :=
  ⟨rfl, O.sc.nd, rfl, rfl, rfl, fr, room, gd, takes_of (X := cxOf (L2.CX P w) P w K mg base n.N n.d.qual n.d.scope fa cd A out s H E) rfl rfl rfl rfl, PassesOwn.leaving, gl, L.call, fl, L.mkr, (fun x hx => (lm x hx).ok cdl cdi), ht, (fun _ => ⟨rfl, rfl, rfl⟩), (fun _ => hc), L.lamg, L.thk, L.prp, er, L.mth⟩
/-- a function's body, one level up -/
theorem body_ok {T : Tab} {o : Orc} {k : Nat} {n : FN} {fa : Addr} {fd : PySem.FuncData} (O : n.Ok T) (D : FunD K n.d.name n.d.qual n.d.params n.d.body n.d.scope (n.d.dvs K) (n.d.kws K) fa fd) (L : Lv P w K mg base T o k)
    (fr : ∀ x ∈ T.frees, mg x = none) (gl : ∀ p ∈ T.glos, ∃ u v, mg p.1 = some u ∧ RelV v u ∧ ∀ φ μ H, RelD K φ μ H p.2 v) (fl : ∀ c f, (c, f) ∈ T.flds → ∃ C, ClsAt K c C ∧ Cls K C ∧ NoAttr K C f) (er : ErrF P K mg T.errs) (lm : ∀ x, n.lm = some x → LmAt K base mg n.d.qual fa x) :
    PySem.W.keepIn K (.ref fa) = true ∧ Binds K fd n.ps [] ∧ (∀ q ∈ n.kb, KB K fd n.ps q) ∧ FnG P w K mg base (2 * (k + 1)) fa fd n.ps (spR K o n.fd) ∧ (n.th = true → FnT T P w K mg base (2 * (k + 1)) fa fd n.ps (spRT K o n.fd)) := by
  have D' : FunD K n.d.name n.d.qual n.d.params n.d.body n.d.scope [] (n.d.kws K) fa fd := by
    have z := O.dfl
    unfold He.DefD.dvs at D
    rw [z] at D
    exact D
  refine ⟨D.kp, D'.bindsN O.bnd, fun q hq => kb_of D' (O.kbd q hq), FnG.of_def (k := 2 * k + 1) D O.sc (fun vs H Q E => ?_) fun cd cdl cdi A out s H vs Q E gd room => ?_, fun hth => ⟨fun t vs H Q E => ?_, fun A out s H args t us vs Q E gd room ent ci bnd val q => ?_⟩⟩
  · rintro ⟨φ, μ, s, ds, rs, rl, hl, h⟩
    rw [← rl.length, hl, O.nP]
  · rintro ⟨φ, μ, s0, ds, rs, rl, hl, h⟩
    have G := body_good (xc := {}) (E := E) (H := H) (out := out) O L fr gl fl er lm cdl cdi gd room (fun z => absurd rfl z) (fun t z => nomatch z)
    refine ⟨_, allSs (T := T) (xc := {}) n.fd.body _ _ _ G n.d.body O.mt, ?_⟩
    refine ⟨φ, μ, ds.map some ++ List.replicate (n.fd.names - ds.length) none, s0, rs, by rw [O.nN]; exact relE_start rfl rl, ?_⟩
    unfold runF at h
    revert h
    generalize evSs _ n.fd.body _ s0 = r
    intro h
    cases r with
    | no => exact h.elim
    | ex c v env' s' => exact fun φ' μ' H' σ' cls dx l rs' re' rx => h φ' μ' H' cls dx l rs' rx
    | ok fl env' s' =>
      cases fl with
      | brk => exact h.elim
      | cnt => exact h.elim
      | nxt => exact fun φ' μ' H' σ' l rs' re' => h φ' μ' H' _ l rs' mk_non
      | ret d => exact fun φ' μ' H' σ' l rs' re' v rd => h φ' μ' H' v l rs' rd
  · rintro ⟨φ, μ, s, ds0, ds, rs, rl0, rl, hk, hl, h⟩
    rw [← rl.length, hl, O.nP]
  · have hlen : vs.length + 1 = n.ps.length := by
      obtain ⟨φ, μ, s, ds0, ds, rs, rl0, rl, hk, hl, h⟩ := q
      rw [← rl.length, hl, O.nP]
    refine def_run (us := .ref t.f :: us) (vs := .ref t.f :: vs) D O.sc room ent bnd (.cons rfl val) hlen fun cd cdl cdi rm => ?_
    obtain ⟨φ, μ, s0, ds0, ds, rs, rl0, rl, hk, hl, h⟩ := q
    have G := body_good (xc := ⟨some t⟩) (E := E) (H := H) (out := out) O L fr gl fl er lm cdl cdi gd rm (fun _ => hth) (fun t' z => by cases z; exact ci)
    refine ⟨_, allSs (T := T) (xc := ⟨some t⟩) n.fd.body _ _ _ G n.d.body O.mt, ?_⟩
    have re : RelE ⟨some t⟩ K φ μ H ((Mi.D.clo t.n ds0 :: ds).map some ++ List.replicate (n.fd.names - (Mi.D.clo t.n ds0 :: ds).length) none) (L2.start n.N (.ref t.f :: vs)) := by
      rw [O.nN]
      have hl2 := rl.length
      unfold L2.start
      refine ⟨by simp [hl2], fun i d e n0 => ?_, fun t' e => ?_⟩
      · have n0 := n0 (fun z => nomatch z)
        cases i with
        | zero => exact absurd rfl n0
        | succ i =>
          simp only [List.map_cons, List.cons_append, List.getElem?_cons_succ] at e ⊢
          by_cases hi : i < ds.length
          · rw [List.getElem?_append_left (by simpa using hi), List.getElem?_map] at e
            cases q : ds[i]? with
            | none => rw [q] at e; cases e
            | some d' =>
              rw [q] at e
              cases e
              obtain ⟨v, e1, e2⟩ := rl.get q
              exact ⟨v, by rw [List.getElem?_append_left (by simpa [← hl2] using hi), List.getElem?_map, e1]; rfl, e2⟩
          · rw [List.getElem?_append_right (by simpa using hi), List.getElem?_replicate] at e
            split at e <;> cases e
      · cases e
        exact ⟨rfl, ⟨ds0, rfl, rl0⟩, hk⟩
    refine ⟨φ, μ, _, s0, rs, re, ?_⟩
    unfold runF at h
    revert h
    generalize evSs _ n.fd.body _ s0 = r
    intro h
    cases r with
    | no => exact h.elim
    | ex c v env' s' => exact fun φ' μ' H' σ' cls dx l rs' re' rx => h φ' μ' H' cls dx l rs' rx
    | ok fl env' s' =>
      cases fl with
      | brk => exact h.elim
      | cnt => exact h.elim
      | nxt => exact fun φ' μ' H' σ' l rs' re' => h φ' μ' H' _ l rs' mk_non
      | ret d => exact fun φ' μ' H' σ' l rs' re' v rd => h φ' μ' H' v l rs' rd
theorem relE_map {φ : Fz} {μ : List Addr} {H : Hp} {ds : List D} {vs : List V} (rl : RelL K φ μ H ds vs) : RelE {} K φ μ H (ds.map some) (vs.map some) := by
  refine ⟨by rw [List.length_map, List.length_map, rl.length], fun i d e _ => ?_, fun t e => nomatch e⟩
  rw [List.getElem?_map, Option.map_eq_some_iff] at e
  obtain ⟨d', e1, e2⟩ := e
  cases e2
  obtain ⟨v, e3, e4⟩ := rl.get e1
  exact ⟨v, by rw [List.getElem?_map, e3]; rfl, e4⟩
/-- a lambda, one level up -/
theorem lam_ok {tb : List FN} {frees : List Str} {keep : Nat → Bool} {glos : List (Str × D)} {flds : List (Str × Str)} {lams : List LamRow} {errs : List String} {k n : Nat} {ps : Arguments} {b : Expr} {sc : Scope} (hm : (tabOf tb frees keep glos flds lams errs).lamOk n ps b sc = true)
    (L : Lv P w K mg base (tabOf tb frees keep glos flds lams errs) (callN (tabOf tb frees keep glos flds lams errs).fdef keep k) k)
    (fr : ∀ x ∈ frees, mg x = none) (gl : ∀ p ∈ glos, ∃ u v, mg p.1 = some u ∧ RelV v u ∧ ∀ φ μ H, RelD K φ μ H p.2 v) (fl : ∀ c f, (c, f) ∈ flds → ∃ C, ClsAt K c C ∧ Cls K C ∧ NoAttr K C f) (er : ErrF P K mg errs) :
    LamG P w K mg base (2 * (k + 1)) ps b sc ((tabOf tb frees keep glos flds lams errs).lamC n) (spF K (callN (tabOf tb frees keep glos flds lams errs).fdef keep (k + 1)) n) := by
  unfold tabOf at hm
  simp only at hm
  split at hm <;> first | (cases hm; done) | skip
  rename_i e1
  split at hm <;> first | (cases hm; done) | skip
  rename_i r e2
  obtain ⟨h1, h2, h3⟩ := and3 hm
  have hF : (tabOf tb frees keep glos flds lams errs).fdef n = some r.fd := by unfold tabOf tab0; simp [e1, e2]
  have hC : (tabOf tb frees keep glos flds lams errs).lamC n = r.caps := by unfold tabOf; simp [e2]
  rw [hC]
  have SC := lamScB_ok h2
  refine LamG.of_body (k := 2 * k + 1) h1 SC fun A outer s H E f c q cl vs Q gd room sp len => ?_
  obtain ⟨φ, μ, s0, ds, rs, rl, hl, h⟩ := spF_R hF rfl sp
  have G : Good (tab0 tb frees keep glos flds lams errs) {} (callN (tabOf tb frees keep glos flds lams errs).fdef keep k) (fun c d _ H' => E c d H') k ⟨r.caps, sc, fun _ => false, none, false, false⟩ (lamX P w K mg base r.caps A outer s H E sc f c q cl) :=
    ⟨rfl, SC.nd, rfl, rfl, rfl, fr, room, gd, takes_of (X := lamX P w K mg base r.caps A outer s H E sc f c q cl) rfl rfl rfl rfl, PassesOwn.leaving, gl, L.call, fl, L.mkr, (fun _ z => nomatch z), (fun z => absurd rfl z), (fun z => nomatch z), (fun z => nomatch z), (fun _ _ _ _ z => nomatch z), (fun _ _ z => nomatch z), L.prp, er, L.mth⟩
  refine ⟨_, to_E ((allE r.e _ _ _ G).1 b h3), φ, μ, ds.map some, s0, rs, relE_map rl, ?_⟩
  unfold runF at h
  have el : r.fd.names - ds.length = 0 := by
    have e3 : r.fd.ps = r.fd.names := rfl
    rw [hl, e3, Nat.sub_self]
  rw [el, List.replicate_zero, List.append_nil] at h
  have e4 : r.fd.body = .cons (.ret r.e) .nil := rfl
  rw [e4] at h
  simp only [evSs, evS] at h
  revert h
  generalize evv _ r.e (ds.map some) s0 = z
  intro h
  cases z with
  | no => exact h.elim
  | ex c v s' => exact h
  | ok d s' => exact h
theorem tab_ok {tb : List FN} {frees : List Str} {keep : Nat → Bool} {glos : List (Str × D)} {flds : List (Str × Str)} {lams : List LamRow} {errs : List String} (ok : ∀ n ∈ tb, n.Ok (tabOf tb frees keep glos flds lams errs))
    (facts : ∀ n ∈ tb, ∃ fa fd, FunD K n.d.name n.d.qual n.d.params n.d.body n.d.scope (n.d.dvs K) (n.d.kws K) fa fd ∧ n.At K mg fa) (fr : ∀ x ∈ frees, mg x = none) (gl : ∀ p ∈ glos, ∃ u v, mg p.1 = some u ∧ RelV v u ∧ ∀ φ μ H, RelD K φ μ H p.2 v)
    (fl : ∀ c f, (c, f) ∈ flds → ∃ C, ClsAt K c C ∧ Cls K C ∧ NoAttr K C f) (er : ErrF P K mg errs) (lms : ∀ n ∈ tb, ∀ x, n.lm = some x → ∀ fa, n.At K mg fa → LmAt K base mg n.d.qual fa x) :
    ∀ k, Lv P w K mg base (tabOf tb frees keep glos flds lams errs) (callN (tabOf tb frees keep glos flds lams errs).fdef keep k) k := by
  have at0 : ∀ {n : FN} {fa : Addr}, n.At K mg fa → n.d.at_.2 = none → mg n.d.at_.1 = some (.ref fa) := fun {n fa} h e => by
    unfold FN.At at h
    rw [e] at h
    exact h
  have atI : ∀ {n : FN} {fa : Addr}, n.At K mg fa → n.d.at_.2 = some inS → ∃ C, ClsAt K n.d.at_.1 C ∧ mg n.d.at_.1 = some (.ref C) ∧ Mk K C fa := fun {n fa} h e => by
    unfold FN.At at h
    rw [e] at h
    obtain ⟨C, h1, h2⟩ := h
    rw [if_pos rfl] at h2
    exact ⟨C, h1, h2.1, h2.2⟩
  have atM : ∀ {n : FN} {fa : Addr} {m : Str}, n.At K mg fa → n.d.at_.2 = some m → m ≠ inS → ¬ n.pr = true → ∃ C, ClsAt K n.d.at_.1 C ∧ Cls K C ∧ Meth K C m fa := fun {n fa m} h e ne np => by
    unfold FN.At at h
    rw [e] at h
    obtain ⟨C, h1, h2⟩ := h
    rw [if_neg ne, if_neg np] at h2
    exact ⟨C, h1, h2.1, h2.2⟩
  have atP : ∀ {n : FN} {fa : Addr} {m : Str}, n.At K mg fa → n.d.at_.2 = some m → m ≠ inS → n.pr = true → ∃ C p, ClsAt K n.d.at_.1 C ∧ Cls K C ∧ PropOf K C m p fa := fun {n fa m} h e ne np => by
    unfold FN.At at h
    rw [e] at h
    obtain ⟨C, h1, h2⟩ := h
    rw [if_neg ne, if_pos np] at h2
    obtain ⟨h2, p, h3⟩ := h2
    exact ⟨C, p, h1, h2, h3⟩
  have cl0 : ∀ {n : FN}, n ∈ tb → n.d.at_.2 ≠ some inS → n.fd.cl = none := fun {n} hn h => by
    rw [(ok n hn).cl]
    unfold FN.clOf
    split
    · rename_i m e
      rw [if_neg fun z => h (by rw [e, z])]
    · rfl
  have bnd : ∀ {n : FN} {fa : Addr} {fd : PySem.FuncData}, n ∈ tb → FunD K n.d.name n.d.qual n.d.params n.d.body n.d.scope (n.d.dvs K) (n.d.kws K) fa fd → Binds K fd n.ps [] ∧ ∀ q ∈ n.kb, KB K fd n.ps q := fun {n fa fd} hn D => by
    have D' : FunD K n.d.name n.d.qual n.d.params n.d.body n.d.scope [] (n.d.kws K) fa fd := by
      have z := (ok n hn).dfl
      unfold He.DefD.dvs at D
      rw [z] at D
      exact D
    exact ⟨D'.bindsN (ok n hn).bnd, fun q hq => kb_of D' ((ok n hn).kbd q hq)⟩
  have kwE : ∀ {f : Nat} {n : FN}, tb[f]? = some n → (tabOf tb frees keep glos flds lams errs).kws f = n.kb := fun {f n} e => by unfold tabOf tab0; simp [e]
  intro k
  induction k with
  | zero =>
    have no : ∀ {f : Nat} {vs : List V} {H : Hp} {Q : VK} {E : XK}, spF K (callN (tabOf tb frees keep glos flds lams errs).fdef keep 0) f vs H Q E → False := fun {f vs H Q E} h => by
      obtain ⟨_, _, _, _, _, _, h⟩ := h
      exact h.elim
    have noT : ∀ {f : Nat} {t : Th} {vs : List V} {H : Hp} {Q : VK} {E : XK}, spT K (callN (tabOf tb frees keep glos flds lams errs).fdef keep 0) f t vs H Q E → False := fun {f t vs H Q E} h => by
      obtain ⟨_, _, _, _, _, _, _, _, _, h⟩ := h
      exact h.elim
    refine ⟨fun f x hx => ?_, fun f x hx => ?_, fun f c m hx => ?_, fun f c m hx => ?_, fun f x hx => ?_, fun n ps b sc hx => ⟨fun A outer s H f c q vs Q E _ _ _ _ _ h => (no h).elim⟩⟩
    · obtain ⟨n, e, e2, rfl⟩ := tab_name hx
      have hm := List.mem_of_getElem? e
      obtain ⟨fa, fd, D, g⟩ := facts n hm
      exact ⟨fa, fd, n.ps, at0 g e2, D.kp, (bnd hm D).1, by rw [kwE e]; exact (bnd hm D).2, ⟨fun vs H Q E h => (no h).elim, fun A outer s H args us vs Q E _ _ _ _ _ h => (no h).elim⟩⟩
    · obtain ⟨n, e, e2, rfl, _⟩ := tab_mkr hx
      have hm := List.mem_of_getElem? e
      obtain ⟨fa, fd, D, g⟩ := facts n hm
      obtain ⟨C, _, g2, g3⟩ := atI g e2
      exact ⟨C, fa, fd, n.ps, fun _ _ _ _ => False, g2, g3, (bnd hm D).1, ⟨fun vs H Q E h => h.elim, fun A outer s H args us vs Q E _ _ _ _ _ h => h.elim⟩, fun vs H Q E h => (no h).elim⟩
    · obtain ⟨n, e, e2, rfl, ne, np⟩ := tab_mth hx
      have hm := List.mem_of_getElem? e
      obtain ⟨fa, fd, D, g⟩ := facts n hm
      obtain ⟨C, g1, g2, g3⟩ := atM g e2 ne np
      exact ⟨C, fa, fd, n.ps, g1, g2, g3, (bnd hm D).1, ⟨fun vs H Q E h => (no h).elim, fun A outer s H args us vs Q E _ _ _ _ _ h => (no h).elim⟩⟩
    · obtain ⟨n, e, e2, rfl, ne, np⟩ := tab_prp hx
      have hm := List.mem_of_getElem? e
      obtain ⟨fa, fd, D, g⟩ := facts n hm
      obtain ⟨C, p, g1, g2, g3⟩ := atP g e2 ne np
      exact ⟨C, p, fa, fd, n.ps, g1, g2, g3, (bnd hm D).1, ⟨fun vs H Q E h => (no h).elim, fun A outer s H args us vs Q E _ _ _ _ _ h => (no h).elim⟩⟩
    · obtain ⟨n, e, e2, rfl, _⟩ := tab_thk hx
      have hm := List.mem_of_getElem? e
      obtain ⟨fa, fd, D, g⟩ := facts n hm
      exact ⟨fa, fd, n.ps, at0 g e2, D.kp, (bnd hm D).1, ⟨fun t vs H Q E h => (noT h).elim, fun A outer s H args t us vs Q E _ _ _ _ _ _ h => (noT h).elim⟩⟩
  | succ k ih =>
    refine ⟨fun f x hx => ?_, fun f x hx => ?_, fun f c m hx => ?_, fun f c m hx => ?_, fun f x hx => ?_, fun n ps b sc hx => lam_ok hx ih fr gl fl er⟩
    · obtain ⟨n, e, e2, rfl⟩ := tab_name hx
      have hm := List.mem_of_getElem? e
      obtain ⟨fa, fd, D, g⟩ := facts n hm
      obtain ⟨b1, b2, b3, b4, _⟩ := body_ok (ok n hm) D ih fr gl fl er (fun x hx => lms n hm x hx fa g)
      exact ⟨fa, fd, n.ps, at0 g e2, b1, b2, by rw [kwE e]; exact b3, b4.imp fun vs H Q E h => spF_R (tab_def e) (cl0 hm (by rw [e2]; exact fun z => nomatch z)) h⟩
    · obtain ⟨n, e, e2, rfl, e3⟩ := tab_mkr hx
      have hm := List.mem_of_getElem? e
      obtain ⟨fa, fd, D, g⟩ := facts n hm
      obtain ⟨C, g1, g2, g3⟩ := atI g e2
      obtain ⟨b1, b2, b3, b4, _⟩ := body_ok (ok n hm) D ih fr gl fl er (fun x hx => lms n hm x hx fa g)
      exact ⟨C, fa, fd, n.ps, _, g2, g3, b2, b4, spF_M (tab_def e) ((ok n hm).cl.trans e3) g1⟩
    · obtain ⟨n, e, e2, rfl, ne, np⟩ := tab_mth hx
      have hm := List.mem_of_getElem? e
      obtain ⟨fa, fd, D, g⟩ := facts n hm
      obtain ⟨C, g1, g2, g3⟩ := atM g e2 ne np
      obtain ⟨b1, b2, b3, b4, _⟩ := body_ok (ok n hm) D ih fr gl fl er (fun x hx => lms n hm x hx fa g)
      exact ⟨C, fa, fd, n.ps, g1, g2, g3, b2, b4.imp fun vs H Q E h => spF_R (tab_def e) (cl0 hm (by rw [e2]; exact fun z => ne (Option.some.inj z))) h⟩
    · obtain ⟨n, e, e2, rfl, ne, np⟩ := tab_prp hx
      have hm := List.mem_of_getElem? e
      obtain ⟨fa, fd, D, g⟩ := facts n hm
      obtain ⟨C, p, g1, g2, g3⟩ := atP g e2 ne np
      obtain ⟨b1, b2, b3, b4, _⟩ := body_ok (ok n hm) D ih fr gl fl er (fun x hx => lms n hm x hx fa g)
      exact ⟨C, p, fa, fd, n.ps, g1, g2, g3, b2, b4.imp fun vs H Q E h => spF_R (tab_def e) (cl0 hm (by rw [e2]; exact fun z => ne (Option.some.inj z))) h⟩
    · obtain ⟨n, e, e2, rfl, e3⟩ := tab_thk hx
      have hm := List.mem_of_getElem? e
      obtain ⟨fa, fd, D, g⟩ := facts n hm
      obtain ⟨b1, b2, b3, _, b5⟩ := body_ok (ok n hm) D ih fr gl fl er (fun x hx => lms n hm x hx fa g)
      have b5 := b5 e3
      refine ⟨fa, fd, n.ps, at0 g e2, b1, b2, ⟨fun t vs H Q E h => b5.len t vs H Q E (spT_R (tab_def e) (cl0 hm (by rw [e2]; exact fun z => nomatch z)) h), fun A outer s H args t us vs Q E gd room ent ci bnd val h => b5.run A outer s H args t us vs Q E gd room ent ci bnd val (spT_R (tab_def e) (cl0 hm (by rw [e2]; exact fun z => nomatch z)) h)⟩⟩
end
end
end Mi

/-! # Properties: the head's hook with their getters -/
namespace Mi
open PySem PySem.Spec PyProof.Rows L2
/-- a property: its class, its name, its getter's text -/
structure PrD where
  cls : Str
  name : Str
  qual : Str
  params : Arguments
  body : List Stmt
  scope : Scope
section
variable (K : PySem.W.Frag) (d : PrD)
/-- where the property stands, its getter -/
def PrD.p : Addr := He.ma K (He.ga K d.cls) d.name
def PrD.g : Addr := match PySem.W.recIn K (d.p K) "property" with
  | some (.ref g :: _) => g
  | _ => 0
def PrD.val (d : PrD) : He.FnW := some (d.name, d.qual, d.params, .stmts d.body, d.scope, mainGlobals, [], builtinsNs)
/-- the getter's text as it stands in the heap -/
def prObs : He.FnW := match K.lookup (d.g K) with
  | some ⟨_, _, .func fd, _⟩ => some (fd.name, fd.qualname, fd.params, fd.body, fd.scope, fd.globals, fd.closure, fd.builtins)
  | _ => none
/-- the getter's code, no defaults -/
def prCode : Bool := match K.lookup (d.g K) with
  | some ⟨_, _, .func fd, _⟩ => PySem.W.codeIn K fd.code d.qual && (He.dflB K fd.defaults [] && He.kwdB K fd.kwdefaults [])
  | _ => false
/-- the property is one -/
def prIs : Bool := decide (PySem.W.findIn K (.ref (He.ga K d.cls)) d.name = some (some (.ref (d.p K)))) && (decide (PySem.W.specialIn K (.ref (d.p K)) "__get__" = some (some (.builtin "property.__get__"))) && (decide (PySem.W.takesIn K (.ref (d.p K)) = some true) && (match PySem.W.recIn K (d.p K) "property" with
  | some (.ref _ :: _) => true
  | _ => false)))
def prB : Bool := prIs K d && (PySem.W.keepIn K (.ref (d.g K)) && prCode K d)
end
theorem pr_is {K : PySem.W.Frag} {d : PrD} (h : prIs K d = true) : PropOf K (He.ga K d.cls) d.name (d.p K) (d.g K) := by
  obtain ⟨h1, h⟩ := He.ba h
  obtain ⟨h2, h⟩ := He.ba h
  obtain ⟨h3, h4⟩ := He.ba h
  refine ⟨of_decide_eq_true h1, of_decide_eq_true h2, of_decide_eq_true h3, ?_⟩
  unfold PrD.g
  split at h4 <;> first | cases h4 | skip
  rename_i g r e
  rw [e]
  exact ⟨r, rfl⟩
theorem pr_fun {K : PySem.W.Frag} {d : PrD} (e : prObs K d = d.val) (kp : PySem.W.keepIn K (.ref (d.g K)) = true) (c : prCode K d = true) : ∃ fd, FunD K d.name d.qual d.params d.body d.scope [] [] (d.g K) fd := by
  unfold prObs at e
  unfold prCode at c
  split at c <;> first | cases c | skip
  rename_i oc od fd sl look
  rw [look] at e
  obtain ⟨c1, c2⟩ := He.ba c
  obtain ⟨c3, c4⟩ := He.ba c2
  obtain ⟨m1, m2, m3, m4, m5, m6, m7, m8, m9, m10, m11, m12, m13, m14, m15⟩ := fd
  simp only [PrD.val, Option.some.injEq, Prod.mk.injEq] at e
  obtain ⟨q1, q2, q3, q4, q5, q6, q7, q8⟩ := e
  subst q1 q2 q3 q4 q5 q6 q7 q8
  exact ⟨_, ⟨oc, od, m8, m9, m10, m11, m12, m13, m14, sl, rfl, look, c1, He.dflB_ok c3, He.kwdB_ok c4⟩, kp⟩
/-- what is told besides: the properties, their getters -/
def SaysP (ps : List PrD) (K : PySem.W.Frag) : Prop := ∀ d ∈ ps, PropOf K (He.ga K d.cls) d.name (d.p K) (d.g K) ∧ ∃ fd, FunD K d.name d.qual d.params d.body d.scope [] [] (d.g K) fd
/-! ### the error classes -/
section
variable (K : PySem.W.Frag)
def errD : Addr := He.ga K "QueueError"
def errI (c : String) : Addr := He.ma K (He.ga K (Str.ofString c)) "__init__"
def errStr (file : Str) (vs : Array Value) : Bool := match (vs[2]? : Option Value) with
  | some (Value.str f _) => file == f
  | _ => false
def errCodeB (file : Str) (cda : Addr) : Bool := match K.lookup cda with
  | some ⟨_, _, .fields vs, _⟩ => errStr file vs
  | _ => false
def errCellB (cc D : Addr) : Bool := match K.lookup cc with
  | some ⟨_, _, .cell (some (.ref d)), _⟩ => decide (d = D)
  | _ => false
def errFunB (file : Str) (D : Addr) : FuncData → Bool
  | ⟨_, qn, pr, .stmts body, sc, gl, [(x, cc)], .none, .none, _, _, _, .ref cda, _, bn⟩ =>
    decide (gl = mainGlobals) && (decide (bn = builtinsNs) && (decide (x = "__class__") && (errParB pr && (errBodyB body && (errScB sc && (PySem.W.codeIn K (.ref cda) qn && (errCodeB K file cda && errCellB K cc D)))))))
  | _ => false
def errFnB (file : Str) (fI D : Addr) : Bool := (match K.lookup fI with
  | some ⟨_, _, .func fd, _⟩ => errFunB K file D fd
  | _ => false) && (decide (PySem.W.nsIn K mainGlobals "super" = some none) && (decide (PySem.W.nsIn K cStatics "thirdparty.any" = some none) && (PySem.W.clsIn K D).isSome))
def errObjB (C : Addr) : Bool := match K.lookup C with
  | some ⟨.type t, _, .cls ⟨_, _, .ref C' :: bm, _, _, true, _, _, _, _, false⟩, sl⟩ => decide (t = "type") && (decide (C' = C) && (PySem.HandSPX.refsVE bm && (match sl.toList with
    | [_, _, _, _, some (.builtin n), _] => decide (n = "ValueError.__new__")
    | _ => false)))
  | _ => false
def errClsB (C fI D : Addr) : Bool := errObjB K C && (decide (PySem.W.findIn K (.ref C) "__setattr__" = some (some (.builtin "object.__setattr__"))) && (decide (PySem.W.findIn K (.ref C) "__getattribute__" = some (some (.builtin "BaseException.__getattribute__"))) &&
  (decide (PySem.W.findIn K (.ref C) "__getattr__" = some none) && (decide (PySem.W.findIn K (.ref C) "value" = some none) && (decide (PySem.W.findIn K (.ref C) "__init__" = some (some (.ref fI))) && (decide (PySem.W.typeIn K (.ref fI) = some (.type "function")) &&
  (PySem.W.keepIn K (.ref C) && (decide (PySem.W.subIn K (.ref C) (.type "BaseException") = some true) && (decide (PySem.W.subIn K (.ref C) (.type "ValueError") = some true) && (decide (PySem.W.typeIn K (.ref C) = some (.type "type")) &&
  (PySem.W.hasDictIn K C && (decide (PySem.W.ks_superIn K C D "__init__" = some (some (.builtin "ValueError.__init__"))) && (decide (PySem.W.mroIn K C (.ref D) = some true) && (decide (PySem.W.findIn K (.ref C) "__class__" = some (some (.builtin "object.__class__"))) &&
  (decide (PySem.W.specialIn K (.builtin "object.__class__") "__get__" = some (some (.builtin "getset_descriptor.__get__"))) && (decide (PySem.W.takesIn K (.builtin "object.__class__") = some true) && (decide (PySem.W.mroIn K C (.type "object") = some true) &&
  decide (PySem.W.exmOne K (.ref C) (.ref D) = some true))))))))))))))))))
def isxB1 (c d : String) : Bool := match PySem.W.nsIn K mainGlobals (Str.ofString c) with
  | some (some (.ref C)) => (match PySem.W.nsIn K mainGlobals (Str.ofString d) with
    | some (some (.ref D)) => decide (PySem.W.kitOne K (.ref C) (.ref D) = some (excIs c (Str.ofString d)))
    | _ => true)
  | _ => true
def errB1 (file : Str) (c : String) : Bool := decide (c ∈ errNames) && (decide (PySem.W.nsIn K mainGlobals (Str.ofString c) = some (some (.ref (He.ga K (Str.ofString c))))) && (decide (PySem.W.nsIn K mainGlobals "QueueError" = some (some (.ref (errD K)))) &&
  (errClsB K (He.ga K (Str.ofString c)) (errI K c) (errD K) && (errFnB K file (errI K c) (errD K) && errNames.all fun x => isxB1 K x c))))
def errsB (file : Str) (errs : List String) : Bool := errs.all (errB1 K file)
end
section
variable {K : PySem.W.Frag} {P : Program} {file : Str} {C fI D : Addr}
theorem errObjB_ok (h : errObjB K C = true) : ∃ nm q N bs bm sn sub ab col dd k0 k1 k2 k3 k5, K.lookup C = some (excClassObj nm q C N bs bm true sn sub ab col dd k0 k1 k2 k3 k5 "ValueError.__new__") ∧ PySem.HandSPX.refsVE bm = true := by
  unfold errObjB at h
  split at h <;> first | cases h | skip
  rename_i t od nm bs C' bm N q sn sub ab col sl look
  obtain ⟨h1, h⟩ := He.ba h
  obtain ⟨h2, h⟩ := He.ba h
  obtain ⟨h3, h⟩ := He.ba h
  split at h <;> first | cases h | skip
  rename_i k0 k1 k2 k3 n k5 e
  have h4 := of_decide_eq_true h
  have e1 := of_decide_eq_true h1
  have e2 := of_decide_eq_true h2
  subst e1 e2 h4
  refine ⟨nm, q, N, bs, bm, sn, sub, ab, col, od, k0, k1, k2, k3, k5, ?_, h3⟩
  rw [look]
  have : sl = #[k0, k1, k2, k3, some (.builtin "ValueError.__new__"), k5] := by
    rw [← e] <;> simp
  rw [this]
theorem errClsB_ok (h : errClsB K C fI D = true) : ErrCls K C fI D := by
  unfold errClsB at h
  simp only [Bool.and_eq_true, decide_eq_true_eq] at h
  obtain ⟨h1, h2, h3, h4, h5, h6, h7, h8, h9, h10, h11, h12, h13, h14, h15, h16, h17, h18, h19⟩ := h
  exact ⟨errObjB_ok h1, h2, h3, h4, h5, h6, h7, h8, h9, h10, h11, h12, h13, h14, h15, h16, h17, h18, h19⟩
theorem errCodeB_ok {cda : Addr} (h : errCodeB K file cda = true) : ∃ (ccl : Value) (cdd : Option Addr) (vs : Array Value) (ccs : Array (Option Value)) (f : Str) (tf : Tok), K.lookup cda = some ⟨ccl, cdd, .fields vs, ccs⟩ ∧ vs[2]? = some (.str f tf) ∧ (file == f) = true := by
  unfold errCodeB at h
  split at h <;> first | cases h | skip
  rename_i ccl cdd vs ccs look
  unfold errStr at h
  split at h <;> first | cases h | skip
  rename_i f tf e
  exact ⟨ccl, cdd, vs, ccs, f, tf, look, e, h⟩
theorem errCellB_ok {cc : Addr} (h : errCellB K cc D = true) : ∃ (cl : Value) (cld : Option Addr) (csl : Array (Option Value)), K.lookup cc = some ⟨cl, cld, .cell (some (.ref D)), csl⟩ := by
  unfold errCellB at h
  split at h <;> first | cases h | skip
  rename_i cl cld d csl look
  have e := of_decide_eq_true h
  subst e
  exact ⟨cl, cld, csl, look⟩
theorem errFnB_ok (hf : P.main.file = file) (ht : (P.main.scope.names.lookup ("super" : Str)).isSome = false) (h : errFnB K file fI D = true) : ErrFn P K fI D := by
  unfold errFnB at h
  obtain ⟨h1, h⟩ := He.ba h
  obtain ⟨h2, h⟩ := He.ba h
  obtain ⟨h3, h4⟩ := He.ba h
  split at h1 <;> first | cases h1 | skip
  rename_i oc od fd osl look
  unfold errFunB at h1
  split at h1 <;> first | cases h1 | skip
  rename_i nm qn pr body sc gl x cc doc pm an cda ct bn
  simp only [Bool.and_eq_true, decide_eq_true_eq] at h1
  obtain ⟨rfl, rfl, rfl, k4, k5, k6, k7, k8, k9⟩ := h1
  exact ⟨⟨oc, od, nm, qn, pr, body, sc, doc, pm, an, cda, ct, cc, osl, look, errParB_ok k4, errBodyB_ok k5, errScB_ok k6, k7, by rw [hf]; exact errCodeB_ok k8, errCellB_ok k9⟩, of_decide_eq_true h2, ht, of_decide_eq_true h3, Option.isSome_iff_exists.mp h4⟩
theorem errsB_ok {h : Heap} {mg : Str → Option Value} {errs : List String} (hf : P.main.file = file) (ht : (P.main.scope.names.lookup ("super" : Str)).isSome = false) (X : K.In h) (G : h.Ns mainGlobals mg) (b : errsB K file errs = true) : ErrF P K mg errs := fun c hc => by
  have z := List.all_eq_true.mp b c hc
  unfold errB1 at z
  simp only [Bool.and_eq_true, decide_eq_true_eq] at z
  obtain ⟨h1, h2, h3, h4, h5, h6⟩ := z
  refine ⟨⟨_, _, _, ⟨h1, h2, errClsB_ok h4, h3⟩, PySem.W.mg_of X G h2, errFnB_ok hf ht h5⟩, fun x hx C D hC hD => ?_⟩
  have z := List.all_eq_true.mp h6 x hx
  unfold isxB1 at z
  have hC : PySem.W.nsIn K mainGlobals (Str.ofString x) = some (some (.ref C)) := hC
  have hD : PySem.W.nsIn K mainGlobals (Str.ofString c) = some (some (.ref D)) := hD
  rw [hC, hD] at z
  exact of_decide_eq_true z
end
/-! ### the hook -/
/-- .. and the interpreter's own statics -/
def asE (g : Addr → Option Obj) (n : Nat) : List Addr := He.asD g n ++ [cStatics]
def obsE (n : Nat) (fa : List He.Fa) (fn : List He.DefD) (tf : List He.Defn) (ex : PySem.W.Frag → Bool) (ps : List PrD) (g : Addr → Option Obj) : He.AlX × (Bool × List He.FnW) :=
  ((He.obsT fa fn [] (He.frT g (asE g n)), ex (He.frT g (asE g n)) && He.tabsB g tf (He.frT g (asE g n))), (ps.all (prB (He.frT g (asE g n))), ps.map (prObs (He.frT g (asE g n)))))
def valE (fn : List He.DefD) (ps : List PrD) (w : World) : He.AlX × (Bool × List He.FnW) := (He.valX fn [] w, (true, ps.map PrD.val))
theorem saysE_of {n : Nat} {fa : List He.Fa} {fn : List He.DefD} {tf : List He.Defn} {ex : PySem.W.Frag → Bool} {ps : List PrD} {w : World} {h : Heap} (e : obsE n fa fn tf ex ps h.get? = valE fn ps w) : He.SaysX fa fn [] tf ex w h (He.frT h.get? (asE h.get? n)) ∧ SaysP ps (He.frT h.get? (asE h.get? n)) := by
  generalize hK : He.frT h.get? (asE h.get? n) = K at e ⊢
  unfold obsE at e
  rw [hK] at e
  have e0 : He.obsT fa fn [] K = He.valT fn [] w := congrArg (fun z : He.AlX × (Bool × List He.FnW) => z.1.1) e
  have e2 : (ex K && He.tabsB h.get? tf K) = true := congrArg (fun z : He.AlX × (Bool × List He.FnW) => z.1.2) e
  have e3 : ps.all (prB K) = true := congrArg (fun z : He.AlX × (Bool × List He.FnW) => z.2.1) e
  have e4 : ps.map (prObs K) = ps.map PrD.val := congrArg (fun z : He.AlX × (Bool × List He.FnW) => z.2.2) e
  obtain ⟨h1, h2⟩ := He.ba e2
  have key : ∀ p ∈ tf, PySem.W.codeHdIn K (He.cT K p).1 (He.cT K p).2 = true ∧ ∃ o, h.get? (He.cT K p).2 = some o ∧ He.emptyTab o = true := fun p hp => by
    obtain ⟨h3, h4⟩ := He.ba (List.all_eq_true.mp h2 p hp)
    refine ⟨h3, ?_⟩
    cases q : h.get? (He.cT K p).2 with
    | none => rw [q] at h4; cases h4
    | some o => rw [q] at h4; exact ⟨o, rfl, h4⟩
  refine ⟨⟨e0, h1, fun p hp => (key p hp).1, fun p hp => ?_, fun p hp => ?_⟩, fun d hd => ?_⟩
  · obtain ⟨_, o, q, z⟩ := key p hp
    have y := He.frT_none (as := asE h.get? n) q z
    rwa [hK] at y
  · obtain ⟨_, o, q, z⟩ := key p hp
    rw [q, He.emptyTab_eq z]
  · obtain ⟨b1, b2⟩ := He.ba (List.all_eq_true.mp e3 d hd)
    obtain ⟨b3, b4⟩ := He.ba b2
    exact ⟨pr_is b1, pr_fun (List.map_inj_left.mp e4 d hd) b3 b4⟩
def hookE (n : Nat) (fa : List He.Fa) (fn : List He.DefD) (tf : List He.Defn) (ex : PySem.W.Frag → Bool) (ps : List PrD) : PySem.W.Hook where
  α := He.AlX × (Bool × List He.FnW)
  obs := fun s => obsE n fa fn tf ex ps s.heap.get?
  val := fun w => valE fn ps w
  says := fun w h => ∃ K : PySem.W.Frag, K.In h ∧ He.SaysX fa fn [] tf ex w h K ∧ SaysP ps K
  of := fun _ _ e => ⟨_, He.frT_in, saysE_of e⟩
  keeps := fun _ _ _ ⟨K, hK, c, cp⟩ k => ⟨K, PySem.W.Frag.In.keeps hK k, ⟨c.t, c.more, c.hd, c.out, fun p hp => k _ _ (c.empty p hp)⟩, cp⟩
theorem obsE_eq {n : Nat} {fa : List He.Fa} {fn : List He.DefD} {tf : List He.Defn} {ex : PySem.W.Frag → Bool} {ps : List PrD} {g : Addr → Option Obj} {s : Shared} (h : ∀ a, g a = s.heap.get? a) : obsE n fa fn tf ex ps g = (hookE n fa fn tf ex ps).obs s := by
  have e : g = s.heap.get? := funext h
  rw [e] <;> rfl
end Mi

/-! # A law's end -/
namespace Mi
open PySem PySem.Spec PyProof.Rows L2
/-- the script as a tree -/
def scr (ns : List Int) : List D := [.flst (ns.map .int)]
theorem scr_rel {K : PySem.W.Frag} {φ : Fz} {μ : List Addr} {H : Hp} : ∀ (ns : List Int), RelL K φ μ H (ns.map .int) (ns.map V.int)
  | [] => .nil
  | n :: ns => .cons mk_int (scr_rel ns)
/-- what is tracked at the law's entry: the script (when the text does not have it), the tables -/
structure Ent (K : PySem.W.Frag) (H : Hp) (h : Heap) (a : Addr) (us : List Value) : Prop where
  obj : h.get? a = some { cls := .type "list", data := .seq us.toArray }
  only : ∀ b, H b = none ∨ (∃ ob xs, H b = some (.frz ob (.lst xs))) ∨ H b = some (.tbl #[])
  here : ∀ b, H b ≠ none → K.lookup b = none ∧ (b = a ∨ H b = some (.tbl #[]))
  tbs : ∀ b, H b = some (.tbl #[]) → h.get? b = some { cls := .none, data := .fields #[] } ∧ ∃ c, PySem.W.CodeHd h c b
section
variable {K : PySem.W.Frag} {mg mb : Str → Option Value} {s1 : Shared} {H : Hp} {a : Addr} {us : List Value}
theorem Ent.no (E : Ent K H s1.heap a us) {b : Addr} {o : Obj} (z : s1.heap.get? b = some o) (h1 : ∀ vs n, o.data ≠ .seq vs n) (h2 : o.data ≠ .fields #[]) : H b = none := by
  cases e : H b with
  | none => rfl
  | some u =>
    obtain ⟨_, c⟩ := E.here b (by rw [e]; exact fun z => nomatch z)
    rcases c with rfl | c
    · rw [E.obj] at z; cases z; exact absurd rfl (h1 _ _)
    · rw [(E.tbs b c).1] at z; cases z; exact absurd rfl h2
theorem Ent.dicts (E : Ent K H s1.heap a us) {b : Addr} {m : Str → Option Value} (z : s1.heap.Ns b m) : (hidT s1.heap H).Ns b m := by
  obtain ⟨o, es, ep, z, zd, zr⟩ := z
  exact ⟨o, es, ep, hidT_get z (E.no z (fun _ _ e => by rw [zd] at e; cases e) (fun e => by rw [zd] at e; cases e)), zd, zr⟩
theorem Ent.kin (E : Ent K H s1.heap a us) (inK : K.In s1.heap) : K.In (hidT s1.heap H) := fun b o z => hidT_get (inK b o z) (by
  cases e : H b with
  | none => rfl
  | some u => rw [(E.here b (by rw [e]; exact fun z => nomatch z)).1] at z; cases z)
theorem Ent.mod (E : Ent K H s1.heap a us) (inK : K.In s1.heap) (glo : s1.heap.Ns mainGlobals mg) (blt : s1.heap.Ns builtinsNs mb) (boot : ∀ x : Str, x ≠ "__name__" → mb x = bootBuiltins x) (nolim : s1.heap.NoLimit) : Mod K mg (hidT s1.heap H) := by
  obtain ⟨mc, y1, y2⟩ := nolim
  exact ⟨E.kin inK, E.dicts glo, ⟨mb, E.dicts blt, boot⟩, ⟨mc, E.dicts y1, y2⟩⟩
theorem Ent.tab (E : Ent K H s1.heap a us) (inK : K.In s1.heap) (glo : s1.heap.Ns mainGlobals mg) {c P : Addr} (hd : PySem.W.codeHdIn K c P = true) (hP : H P = some (.tbl #[]))
    (hbm : ∃ (bm : Addr) (ob : Obj), mg "__builtins__" = some (.ref bm) ∧ bm ≠ builtinsNs ∧ s1.heap.get? bm = some ob ∧ ob.cls = .type "module" ∧ ob.dict = some builtinsNs ∧ ob.data = .plain) : LamX.TabB (hidT s1.heap H) mg c P := by
  have z := (E.tbs P hP).1
  obtain ⟨bm, ob, b1, b2, b3, b4, b5, b6⟩ := hbm
  have gP : mainGlobals ≠ P := fun e => by
    obtain ⟨o, es, ep, e1, e2, _⟩ := glo
    rw [e, z] at e1; cases e1; cases e2
  refine ⟨PySem.W.codeHd_of_K (E.kin inK) hd, ⟨bm, ob, b1, b2, fun e => ?_, fun e => ?_, hidT_get b3 (E.no b3 (fun _ _ e => by rw [b6] at e; cases e) (fun e => by rw [b6] at e; cases e)), b4, b5, b6⟩, gP⟩
  · obtain ⟨o, es, ep, e1, e2, _⟩ := glo
    rw [e, e1] at b3; cases b3; rw [e2] at b6; cases b6
  · rw [e, z] at b3; cases b3; cases b6
end
/-- the law's call, where its function keeps what FnG says: H is what is tracked at its entry -/
theorem call_end {P : Program} {w : World} {K : PySem.W.Frag} {mg mb : Str → Option Value} {k : Nat} {fa a : Addr} {fd : PySem.FuncData} {ps : List Str} {sp : Sp} {s1 : Shared} {us : List Value} {H : Hp}
    (inK : K.In s1.heap) (glo : s1.heap.Ns mainGlobals mg) (blt : s1.heap.Ns builtinsNs mb) (boot : ∀ x : Str, x ≠ "__name__" → mb x = bootBuiltins x) (nolim : s1.heap.NoLimit) (idle : s1.gens = #[])
    (Et : Ent K H s1.heap a us) (room : Room k callerA) (F : FnG P w K mg (hidT s1.heap H) k fa fd ps sp) (bnd : L2.Binds K fd ps [])
    (held : HOk P w H s1.heap) (q : sp [.ref a] H (fun v _ => v = .bl true) fun _ _ _ => False) :
    codeAny (model P w) callerA (.call (.ref fa) ⟨[.ref a], []⟩) (fun r s2 => r = .ok (.ret (.bool true)) ∧ OldK s1.heap s2.heap ∧ s2.os = s1.os ∧ AllBare s2.gens) s1 := by
  have mod := Et.mod inK glo blt boot nolim
  have ent : Env0 P w K mg (hidT s1.heap H) callerA [] s1 H :=
    { frames := rfl, mod := mod, bs := fun b o z => of_hidT z, bsz := Nat.le_of_eq (hidT_size _ _), funs := trivial, frf := (fun b hb => nomatch hb), hok := held, bare := .of_eq idle }
  have go := F.run callerA [] s1 H ⟨[.ref a], []⟩ [.ref a] [.ref a] _ _ rfl room ent (bnd s1 [.ref a] inK (F.len _ _ _ _ q)) (.cons rfl .nil) q
  refine codeAny_mono go fun r s2 z => ?_
  match r, z with
  | .error e, z =>
    obtain ⟨_, _, _, _, _, _, _, _, _, _, _, _, no⟩ := z
    exact no.elim
  | .ok .next, z => exact z.elim
  | .ok .brk, z => exact z.elim
  | .ok .cont, z => exact z.elim
  | .ok (.ret u), z =>
    obtain ⟨v, G, z1, z2, z3, z4, z5, z6⟩ := z
    cases (show v = .bl true from z6)
    cases (show u = Value.bool true from z5)
    have old : ∀ b o, H b ≠ some (.tbl #[]) → s1.heap.get? b = some o → s2.heap.get? b = some o := fun b o nt y => by
      rcases Et.only b with c | ⟨ob, xs, c⟩ | c
      · exact z3.keep b o y c (fun y => nomatch y) (fun y => nomatch y)
      · obtain ⟨y1, _⟩ := held b _ c
        obtain ⟨y2, _⟩ := z4 b _ (z3.frzs b ob _ c)
        rw [y] at y1
        cases y1
        exact y2
      · exact absurd c nt
    have grown : ∀ b, H b = some (.tbl #[]) → ∃ more : Array Value, s2.heap.get? b = some { cls := .none, data := .fields more } := fun b hb => by
      obtain ⟨more, z⟩ := z3.tbls b #[] hb
      exact ⟨_, z4 b _ z⟩
    refine ⟨rfl, ⟨fun b o y => ?_, fun b o y => ?_⟩, z1, z2⟩
    · by_cases hb : H b = some (.tbl #[])
      · obtain ⟨t1, c, t2⟩ := Et.tbs b hb
        obtain ⟨more, hm⟩ := grown b hb
        rw [t1] at y
        cases y
        exact .inr (.inl ⟨(t2.tab t1).isCodeTable, rfl, #[], more, rfl, by rw [Array.empty_append]; exact hm⟩)
      · exact .inl (old b o hb y)
    · by_cases hb : H b = some (.tbl #[])
      · obtain ⟨more, hm⟩ := grown b hb
        exact ⟨_, hm⟩
      · exact ⟨o, old b o hb y⟩
/-- what is told of the defs whose lambdas may be made -/
structure LamF (K : PySem.W.Frag) (h : Heap) : Prop where
  at_ : ∀ x ∈ lamMakers, (He.Fa.glo x).ok K = true → PySem.W.codeHdIn K (He.cT K (x, none)).1 (He.cT K (x, none)).2 = true ∧ K.lookup (He.cT K (x, none)).2 = none ∧ h.get? (He.cT K (x, none)).2 = some { cls := .none, data := .fields #[] }
  uq : ∀ x ∈ lamMakers, (He.Fa.glo x).ok K = true → ∀ y ∈ lamMakers, (He.Fa.glo y).ok K = true → (He.cT K (y, none)).2 = (He.cT K (x, none)).2 → y = x
/-- a table's rows tell their own lambdas -/
def lmB (tb : List FN) : Bool := tb.all fun n => match n.lm with
  | none => true
  | some x => memS x lamMakers && decide (n.d.at_ = (x, none)) && decide (n.d.qual = x)
/-- what is known at the law's entry -/
structure Known (P : Program) (tb : List FN) (frees : List Str) (glos : List (Str × D)) (flds : List (Str × Str)) (errs : List String) (h : Heap) (K : PySem.W.Frag) : Prop where
  inK : K.In h
  funs : ∀ n ∈ tb, ∃ fa fd, FunD K n.d.name n.d.qual n.d.params n.d.body n.d.scope (n.d.dvs K) (n.d.kws K) fa fd ∧ ∀ mg : Str → Option Value, h.Ns mainGlobals mg → n.At K mg fa
  frs : ∀ mg : Str → Option Value, h.Ns mainGlobals mg → ∀ x ∈ frees, mg x = none
  gls : ∀ p ∈ glos, gloB K p = true
  fls : ∀ c f, (c, f) ∈ flds → ∃ C, ClsAt K c C ∧ Cls K C ∧ NoAttr K C f
  lmf : LamF K h
  lmg : ∀ n ∈ tb, (He.Fa.glo n.d.at_.1).ok K = true
  err : ∀ mg : Str → Option Value, h.Ns mainGlobals mg → ErrF P K mg errs
/-- a law by the small language: at every script the evaluator's function answers True -/
theorem law_end {l : PySem.W.OpenLaw} {n k f : Nat} {q : Program} {loose : List Str} {XP : (Str → Option Value) → Heap → Prop} {YP : World → Heap → Prop} {d : DefRec} {tb : List FN} {frees : List Str} {keep : Nat → Bool} {glos : List (Str × D)} {flds : List (Str × Str)} {lams : List LamRow} {errs : List String} {nf : FN}
    (hn : l.most = some n) (hn2 : n ≤ sizeLine) (hdf : d.params.defaults = []) (hr : Room (2 * k) callerA) (hf : tb[f]? = some nf) (hname : nf.d.at_ = (d.name, none)) (hth : nf.th = false) (ok : ∀ n ∈ tb, n.Ok (tabOf tb frees keep glos flds lams errs)) (hlm : lmB tb = true)
    (Y : ∀ (w : World) (h : Heap), YP w h → ∃ K : PySem.W.Frag, Known l.prog tb frees glos flds errs h K)
    (law : ∀ ns : List Int, ns.length ≤ n → (∀ z ∈ ns, Builtin.Int.intBits z ≤ 1048576) → ∃ s, callN (tabOf tb frees keep glos flds lams errs).fdef keep k f (scr ns) [] = .ok (.bl true) s) :
    PySem.W.WalkO q loose XP YP l.row.toRowW d [] (fun f vs => PySem.call f vs) := by
  refine Att.attach_callB hn hdf fun w s0 s1 mg mb fa o pm cd doc a us ns G y ho hd hcd hmg obj reads few bits idle => ?_
  obtain ⟨K, inK, funs, frs, gls, fls, lmf, lmg, err⟩ := Y w _ y
  have hm := List.mem_of_getElem? hf
  obtain ⟨fa', fd, D, at_⟩ := funs nf hm
  have at_ : ∀ mg : Str → Option Value, s1.heap.Ns mainGlobals mg → mg d.name = some (.ref fa') := fun mg g => by
    have := at_ mg g
    unfold FN.At at this
    rw [hname] at this
    exact this
  have e1 : mg d.name = some (.ref fa') := at_ mg G.T.g
  rw [hmg] at e1
  cases e1
  have rv := vals_ints reads
  have lenV := reads.length
  have lay := law ns few bits
  obtain ⟨s', hs'⟩ := lay
  have sp : ∀ (φ : Fz) (H : Hp), RelS K φ [] H [] → FzL K φ H a (ns.map V.int) → spF K (callN (tabOf tb frees keep glos flds lams errs).fdef keep k) f [.ref a] H (fun v _ => v = .bl true) fun _ _ _ => False := fun φ H rs hz => by
    refine ⟨φ, [], [], scr ns, rs, .cons (mk_flst hz (scr_rel ns)) .nil, ?_⟩
    rw [hs']
    exact fun φ' μ' H' b _ _ rb => relD_bl rb
  -- the tables
  obtain ⟨ts, hts⟩ : ∃ ts : List Addr, ts = (lamMakers.filter fun x => (He.Fa.glo x).ok K).map fun x => (He.cT K (x, none)).2 := ⟨_, rfl⟩
  have isT : ∀ b ∈ ts, K.lookup b = none ∧ s1.heap.get? b = some { cls := .none, data := .fields #[] } ∧ ∃ c, PySem.W.CodeHd s1.heap c b := fun b hb => by
    rw [hts] at hb
    obtain ⟨x, hx, rfl⟩ := List.mem_map.mp hb
    obtain ⟨x1, x2⟩ := List.mem_filter.mp hx
    obtain ⟨z1, z2, z3⟩ := lmf.at_ x x1 x2
    exact ⟨z2, z3, _, PySem.W.codeHd_of_K inK z1⟩
  have aT : a ∉ ts := fun z => by
    have := (isT a z).2.1
    rw [obj] at this
    cases this
  -- from what is tracked
  have core : ∀ H : Hp, (∀ b ∈ ts, H b = some (.tbl #[])) → (∀ b, H b = some (.tbl #[]) → b ∈ ts) → Ent K H s1.heap a us → HOk l.prog w H s1.heap → FzL K [] H a (ns.map V.int) →
      codeAny (model l.prog w) callerA (.call (.ref fa) ⟨[.ref a], []⟩) (fun r s2 => r = .ok (.ret (.bool true)) ∧ OldK s1.heap s2.heap ∧ s2.os = s1.os ∧ AllBare s2.gens) s1 := fun H hH hB Et held hz => by
    have lms : ∀ n ∈ tb, ∀ x, n.lm = some x → ∀ fa, n.At K mg fa → LmAt K (hidT s1.heap H) mg n.d.qual fa x := fun n hn x hx fa hfa => by
      have b := List.all_eq_true.mp hlm n hn
      rw [hx] at b
      simp only [Bool.and_eq_true] at b
      obtain ⟨⟨b1, b2⟩, b3⟩ := b
      have b2 := of_decide_eq_true b2
      have g1 : mg x = some (.ref fa) := by
        unfold FN.At at hfa
        rw [b2] at hfa
        exact hfa
      have gk : (He.Fa.glo x).ok K = true := by
        have := lmg n hn
        rwa [b2] at this
      have g2 := He.glo_ok inK G.T.g gk
      rw [g1] at g2
      have mx := memS_mem b1
      obtain ⟨z1, z2, z3⟩ := lmf.at_ x mx gk
      refine ⟨mx, gk, of_decide_eq_true b3, (Value.ref.inj (Option.some.inj g2)).symm, Et.tab inK G.T.g z1 (hH _ (by rw [hts]; exact List.mem_map.mpr ⟨x, List.mem_filter.mpr ⟨mx, gk⟩, rfl⟩)) G.T.bmain, fun y hy gy e => lmf.uq x mx gk y hy gy e⟩
    obtain ⟨fa2, fd2, ps2, g1, g2, g3, _, g4⟩ := tab_ok (P := l.prog) (w := w) (K := K) (mg := mg) (base := hidT s1.heap H) ok (fun n hn => let ⟨fa, fd, D, g⟩ := funs n hn; ⟨fa, fd, D, g mg G.T.g⟩) (frs mg G.T.g) (fun p hp => gloB_ok inK G.T.g (gls p hp)) fls (err mg G.T.g) lms k |>.call f d.name (by unfold tabOf tab0; simp [hf, hname, hth])
    rw [at_ mg G.T.g] at g1
    cases g1
    refine call_end inK G.T.g G.T.b G.T.builtins G.T.nolimit idle Et hr g4 g3 held (sp [] _ ⟨List.nodup_nil, rfl, fun n c a e => by simp at e, (fun p z => nomatch z), (fun p z => nomatch z), (fun p z => nomatch z), fun x hx g => ?_, (fun p z => nomatch z)⟩ hz)
    exact LamX.TabS.nil (hH _ (by rw [hts]; exact List.mem_map.mpr ⟨x, List.mem_filter.mpr ⟨hx, g⟩, rfl⟩))
  cases look : K.lookup a with
  | some o' =>
    have z := inK a o' look
    rw [obj] at z
    cases z
    have e0 : ∀ b, b ∈ ts → (fun b => if b ∈ ts then some (HO.tbl #[]) else none) b = some (.tbl #[]) := fun b hb => if_pos hb
    refine core (fun b => if b ∈ ts then some (HO.tbl #[]) else none) e0 (fun b z => ?_) ⟨obj, fun b => ?_, fun b z => ?_, fun b z => ?_⟩ (fun b u z => ?_) (.inr (.inr ⟨us.toArray, _, look, by rw [List.size_toArray, lenV]; exact Nat.le_trans few hn2, by simpa using rv⟩))
    · by_cases c : b ∈ ts
      · exact c
      · rw [if_neg c] at z; cases z
    · by_cases c : b ∈ ts
      · exact .inr (.inr (if_pos c))
      · exact .inl (if_neg c)
    · by_cases c : b ∈ ts
      · exact ⟨(isT b c).1, .inr (if_pos c)⟩
      · exact absurd (if_neg c) z
    · by_cases c : b ∈ ts
      · exact (isT b c).2
      · rw [if_neg c] at z; cases z
    · by_cases c : b ∈ ts
      · cases (if_pos c).symm.trans z
        exact (isT b c).2.1
      · cases (if_neg c).symm.trans z
  | none =>
    refine core (fun b => if b = a then some (.frz { cls := .type "list", data := .seq us.toArray } (.lst (ns.map V.int))) else if b ∈ ts then some (HO.tbl #[]) else none) (fun b hb => ?_) (fun b z => ?_) ⟨obj, fun b => ?_, fun b z => ?_, fun b z => ?_⟩ (fun b u z => ?_) (.inr (.inl ⟨_, if_pos rfl⟩))
    · have ne : b ≠ a := by rintro rfl; exact aT hb
      exact (if_neg ne).trans (if_pos hb)
    · by_cases ca : b = a
      · rw [if_pos ca] at z; cases z
      · rw [if_neg ca] at z
        by_cases c : b ∈ ts
        · exact c
        · rw [if_neg c] at z; cases z
    · by_cases ca : b = a
      · exact .inr (.inl ⟨_, _, if_pos ca⟩)
      · by_cases c : b ∈ ts
        · exact .inr (.inr ((if_neg ca).trans (if_pos c)))
        · exact .inl ((if_neg ca).trans (if_neg c))
    · by_cases ca : b = a
      · exact ⟨by rw [ca]; exact look, .inl ca⟩
      · by_cases c : b ∈ ts
        · exact ⟨(isT b c).1, .inr ((if_neg ca).trans (if_pos c))⟩
        · exact absurd ((if_neg ca).trans (if_neg c)) z
    · by_cases ca : b = a
      · rw [if_pos ca] at z; cases z
      · rw [if_neg ca] at z
        by_cases c : b ∈ ts
        · exact (isT b c).2
        · rw [if_neg c] at z; cases z
    · by_cases c : b = a
      · subst c
        cases (if_pos rfl).symm.trans z
        exact ⟨obj, by rw [List.length_map]; exact Nat.le_trans few hn2, us, _, rv, obj⟩
      · have z1 := (if_neg c).symm.trans z
        by_cases c2 : b ∈ ts
        · cases (if_pos c2).symm.trans z1
          exact (isT b c2).2.1
        · cases (if_neg c2).symm.trans z1
/-- what stands in a class -/
def clsBody (s : Stmt) : List Stmt := match s with
  | .ClassDef _ _ _ b _ _ _ _ _ _ _ => b
  | _ => []
/-! ### what is asked of the heap at the law's entry -/
def FN.fas (n : FN) : List He.Fa := .glo n.d.at_.1 :: (match n.d.at_.2 with
  | none => []
  | some m => if m = inS then [.mkr n.d.at_.1] else if n.pr = true then [.cls n.d.at_.1] else [.cls n.d.at_.1, .meth n.d.at_.1 m])
def factsOf (tb : List FN) (frees : List Str) (flds : List (Str × Str)) : List He.Fa := tb.flatMap FN.fas ++ (flds.flatMap (fun p => [.glo p.1, .cls p.1, .noat p.1 p.2]) ++ frees.map .free)
/-- the tables are apart -/
def lamsB (K : PySem.W.Frag) : Bool := lamMakers.all fun x => lamMakers.all fun y => !(He.Fa.glo x).ok K || (!(He.Fa.glo y).ok K || (decide (y = x) || decide ((He.cT K (y, none)).2 ≠ (He.cT K (x, none)).2)))
def exOf (glos : List (Str × D)) (file : Str) (errs : List String) (K : PySem.W.Frag) : Bool := glos.all (gloB K) && (lamsB K && errsB K file errs)
/-- the defs whose tables are looked at, of all that may make lambdas: the others are no names of the module -/
def lamIn (tf : List He.Defn) (frees : List Str) : Bool := lamMakers.all fun x => decide ((x, none) ∈ tf) || memS x frees
/-- a getter's text -/
def FN.prd (n : FN) : PrD := ⟨n.d.at_.1, n.d.name, n.d.qual, n.d.params, n.d.body, n.d.scope⟩
def prdsOf (tb : List FN) : List PrD := (tb.filter (·.pr)).map FN.prd
def defsOf (tb : List FN) : List He.DefD := (tb.filter (!·.pr)).map (·.d)
def prOkB (tb : List FN) : Bool := tb.all fun n => !n.pr || (decide (n.d.at_.2 = some n.d.name) && (!decide (n.d.name = inS) && (n.d.dfl.isEmpty && n.d.kwd.isEmpty)))
abbrev hookOf (depth : Nat) (tb : List FN) (frees : List Str) (glos : List (Str × D)) (flds : List (Str × Str)) (tf : List He.Defn) (file : Str) (errs : List String) : PySem.W.Hook := hookE depth (factsOf tb frees flds) (defsOf tb) tf (exOf glos file errs) (prdsOf tb)
theorem known_of {P : Program} {file : Str} {errs : List String} {depth : Nat} {tb : List FN} {frees : List Str} {glos : List (Str × D)} {flds : List (Str × Str)} {tf : List He.Defn} {w : World} {h : Heap} (hl : lamIn tf frees = true) (hp : prOkB tb = true) (hfi : P.main.file = file) (hto : (P.main.scope.names.lookup ("super" : Str)).isSome = false)
    (y : (hookOf depth tb frees glos flds tf file errs).says w h) : ∃ K : PySem.W.Frag, Known P tb frees glos flds errs h K := by
  obtain ⟨K, inK, c, cp⟩ := y
  have cd := c.t.d
  have inT : ∀ {n : FN} {f : He.Fa}, n ∈ tb → f ∈ n.fas → f.ok K = true := fun {n f} hn hf => cd.facts (List.mem_append_left _ (List.mem_flatMap.mpr ⟨n, hn, hf⟩))
  have inF : ∀ {p : Str × Str} {f : He.Fa}, p ∈ flds → f ∈ [He.Fa.glo p.1, .cls p.1, .noat p.1 p.2] → f.ok K = true := fun {p f} hp hf => cd.facts (List.mem_append_right _ (List.mem_append_left _ (List.mem_flatMap.mpr ⟨p, hp, hf⟩)))
  have clsAt : ∀ {x : Str}, (He.Fa.glo x).ok K = true → ClsAt K x (He.ga K x) := fun {x} h => He.eqO_ok h
  obtain ⟨m1, m0⟩ := He.ba (show (glos.all (gloB K) && (lamsB K && errsB K file errs)) = true from c.more)
  obtain ⟨m2, m3⟩ := He.ba m0
  refine ⟨K, inK, fun n hn => ?_, fun mg G x hx => ?_, fun p hp => List.all_eq_true.mp m1 p hp, fun x f hf => ?_, ⟨fun x hx g => ?_, fun x hx g y hy gy e => ?_⟩, fun n hn => inT hn List.mem_cons_self, fun mg G => errsB_ok hfi hto inK G m3⟩
  · have g0 : (He.Fa.glo n.d.at_.1).ok K = true := inT hn List.mem_cons_self
    by_cases pr : n.pr = true
    · have z := List.all_eq_true.mp hp n hn
      rw [pr] at z
      simp only [Bool.not_true, Bool.false_or, Bool.and_eq_true, Bool.not_eq_true', decide_eq_true_eq, decide_eq_false_iff_not, List.isEmpty_iff] at z
      obtain ⟨z1, z2, z3, z4⟩ := z
      obtain ⟨po, fd, F⟩ := cp n.prd (List.mem_map_of_mem (List.mem_filter.mpr ⟨hn, pr⟩))
      have e1 : n.d.dvs K = [] := by unfold He.DefD.dvs; rw [z3]; rfl
      have e2 : n.d.kws K = [] := by unfold He.DefD.kws; rw [z4]; rfl
      rw [e1, e2]
      refine ⟨_, fd, F, fun mg G => ?_⟩
      unfold FN.At
      rw [z1]
      refine ⟨He.ga K n.d.at_.1, clsAt g0, ?_⟩
      rw [if_neg z2, if_pos pr]
      exact ⟨He.cls_ok (inT hn (List.mem_cons_of_mem _ (by rw [z1]; simp [z2, pr]))), _, po⟩
    obtain ⟨fd, F⟩ := cd.defs (d := n.d) (List.mem_map_of_mem (List.mem_filter.mpr ⟨hn, by simpa using pr⟩))
    refine ⟨_, fd, F, fun mg G => ?_⟩
    have z := He.glo_ok inK G g0
    unfold FN.At He.fAd
    cases e : n.d.at_.2 with
    | none => exact z
    | some m =>
      refine ⟨He.ga K n.d.at_.1, clsAt g0, ?_⟩
      by_cases hm : m = inS
      · rw [if_pos hm]
        refine ⟨z, ?_⟩
        have k1 : (He.Fa.mkr n.d.at_.1).ok K = true := inT hn (List.mem_cons_of_mem _ (by rw [e]; simp [hm]))
        rw [hm]
        exact He.mkr_ok k1
      · rw [if_neg hm, if_neg pr]
        exact ⟨He.cls_ok (inT hn (List.mem_cons_of_mem _ (by rw [e]; simp [hm, pr]))), He.meth_ok (inT hn (List.mem_cons_of_mem _ (by rw [e]; simp [hm, pr])))⟩
  · exact He.free_ok inK G (cd.facts (f := .free x) (List.mem_append_right _ (List.mem_append_right _ (List.mem_map_of_mem (f := He.Fa.free) hx))))
  · exact ⟨_, clsAt (inF hf (by simp)), He.cls_ok (inF hf (by simp)), He.noat_ok (inF hf (by simp))⟩
  · have z := List.all_eq_true.mp hl x hx
    rcases Bool.or_eq_true_iff.mp z with z | z
    · have m := of_decide_eq_true z
      exact ⟨c.hd _ m, c.out _ m, c.empty _ m⟩
    · have m := memS_mem z
      have fr : (He.Fa.free x).ok K = true := cd.facts (f := .free x) (List.mem_append_right _ (List.mem_append_right _ (List.mem_map_of_mem (f := He.Fa.free) m)))
      have e1 := He.eqO_ok fr
      have e2 := He.eqO_ok g
      rw [e1] at e2
      cases e2
  · have z := List.all_eq_true.mp (List.all_eq_true.mp m2 x hx) y hy
    rw [g, gy] at z
    simp only [Bool.not_true, Bool.false_or, Bool.or_eq_true, decide_eq_true_eq] at z
    exact z.resolve_right fun n => n e
end Mi

/-! # The evaluator, step by step -/
namespace Mi
/-! ### sizes -/
/-- below 2 ^ k in size -/
def Lg (k : Nat) (i : Int) : Prop := i.natAbs < 2 ^ k
theorem Lg.up {k m : Nat} {i : Int} (h : Lg k i) (hk : k ≤ m) : Lg m i := Nat.lt_of_lt_of_le h (Nat.pow_le_pow_right (by decide) hk)
theorem Lg.log {k : Nat} {i : Int} (h : Lg k i) (hk : 0 < k) : i.natAbs.log2 < k := by
  by_cases z : i.natAbs = 0
  · rw [z]; simpa using hk
  · exact (Nat.log2_lt z).mpr h
theorem Lg.mul {k m : Nat} {i j : Int} (h : Lg k i) (g : Lg m j) : Lg (k + m) (i * j) := by
  unfold Lg at *
  rw [Int.natAbs_mul, Nat.pow_add]
  exact Nat.mul_lt_mul'' h g
theorem Lg.add {k : Nat} {i j : Int} (h : Lg k i) (g : Lg k j) : Lg (k + 1) (i + j) := by
  unfold Lg at *
  have := Int.natAbs_add_le i j
  rw [Nat.pow_succ]
  omega
theorem Lg.sub {k : Nat} {i j : Int} (h : Lg k i) (g : Lg k j) : Lg (k + 1) (i - j) := by
  unfold Lg at *
  have := Int.natAbs_sub_le i j
  rw [Nat.pow_succ]
  omega
theorem big_of {k m : Nat} {i j : Int} (h : Lg k i) (g : Lg m j) (hk : 0 < k) (hm : 0 < m) (s : k + m ≤ 1000000) : bigOk i j = true := by
  have a := h.log hk
  have b := g.log hm
  unfold bigOk
  exact decide_eq_true (by omega)
theorem lg_lit {k : Nat} {i : Int} (h : decide (i.natAbs < 2 ^ k) = true) : Lg k i := by
  unfold Lg
  exact of_decide_eq_true h
theorem lg62 {i : Int} (h : -4611686018427387904 < i ∧ i < 4611686018427387904) : Lg 62 i := by
  unfold Lg
  have : (2 : Nat) ^ 62 = 4611686018427387904 := by decide
  omega
theorem big62 {i j : Int} (h : -4611686018427387904 < i ∧ i < 4611686018427387904) (g : -4611686018427387904 < j ∧ j < 4611686018427387904) : bigOk i j = true := big_of (lg62 h) (lg62 g) (by decide) (by decide) (by decide)
theorem fdv_of {j : Int} (h : 0 < j) (g : j < 4611686018427387904) : 0 < j ∧ j.natAbs.log2 < 9000 := ⟨h, by
  have := (lg62 (i := j) (by omega)).log (by decide)
  omega⟩
theorem bits_of {k : Nat} {i : Int} (h : Lg k i) : PySem.Builtin.Int.intBits i ≤ k := by
  unfold PySem.Builtin.Int.intBits
  unfold Lg at h
  split
  · omega
  · rename_i z
    have z' : i.natAbs ≠ 0 := by simpa using z
    have := (Nat.log2_lt z').mpr h
    omega
/-! ### values -/
@[simp] theorem lay_val (d : D) (s : Sto) : lay (.val d) s = .ok d s := rfl
@[simp] theorem lay_new (xs : List D) (s : Sto) : lay (.new xs) s = .ok (.loc s.length) (s ++ [.lst xs]) := rfl
@[simp] theorem bindv_new {β : Type} (xs : List D) (s : Sto) (f : D → Sto → R β) : (R.ok (P.new xs) s).bindv f = f (.loc s.length) (s ++ [.lst xs]) := rfl
@[simp] theorem bin_add (i j : Int) (s : Sto) : binR .add (.int i) (.int j) s = some (.val (.int (i + j))) := rfl
@[simp] theorem bin_sub (i j : Int) (s : Sto) : binR .sub (.int i) (.int j) s = some (.val (.int (i - j))) := rfl
theorem bin_mul {i j : Int} (h : bigOk i j = true) (s : Sto) : binR .mul (.int i) (.int j) s = some (.val (.int (i * j))) := by simp [binR, binI, h]
theorem bin_mod {i j : Int} (h : 0 < j) (s : Sto) : binR .mod (.int i) (.int j) s = some (.val (.int (i % j))) := by simp [binR, binI, h]
theorem bin_fdv {i j : Int} (h : 0 < j ∧ j.natAbs.log2 < 9000) (s : Sto) : binR .fdv (.int i) (.int j) s = some (.val (.int (i / j))) := by simp [binR, binI, h]
theorem bin_pow {i j : Int} (h : 0 ≤ j ∧ (PySem.Builtin.Int.intBits i : Int) * j ≤ 2 ^ 27) (s : Sto) : binR .pow (.int i) (.int j) s = some (.val (.int (i ^ j.toNat))) := by
  unfold binR binI
  simp only [h, and_self, if_true]
  rfl
theorem bin_strs {a b : PySem.Str} (h : a.length + b.length ≤ 16777216) (s : Sto) : binR .add (.str a) (.str b) s = some (.val (.str (a ++ b))) := by
  unfold binR addR
  simp only
  exact if_pos h
theorem bin_tups {a b : List D} (h : a.length + b.length ≤ 16777216) (s : Sto) : binR .add (.tup a) (.tup b) s = some (.val (.tup (a ++ b))) := by
  unfold binR addR
  simp only
  exact if_pos h
@[simp] theorem cm_lt (i j : Int) (s : Sto) : cmpop .lt (.int i) (.int j) s = some (decide (i < j)) := rfl
@[simp] theorem cm_le (i j : Int) (s : Sto) : cmpop .le (.int i) (.int j) s = some (decide (i ≤ j)) := rfl
@[simp] theorem cm_gt (i j : Int) (s : Sto) : cmpop .gt (.int i) (.int j) s = some (decide (j < i)) := rfl
@[simp] theorem cm_ge (i j : Int) (s : Sto) : cmpop .ge (.int i) (.int j) s = some (decide (j ≤ i)) := rfl
@[simp] theorem cm_eq (i j : Int) (s : Sto) : cmpop .eq (.int i) (.int j) s = some (decide (i = j)) := rfl
@[simp] theorem cm_ne (i j : Int) (s : Sto) : cmpop .ne (.int i) (.int j) s = some (!decide (i = j)) := rfl
@[simp] theorem cm_eqs (i j : PySem.Str) (s : Sto) : cmpop .eq (.str i) (.str j) s = some (decide (i = j)) := rfl
@[simp] theorem cm_nes (i j : PySem.Str) (s : Sto) : cmpop .ne (.str i) (.str j) s = some (!decide (i = j)) := rfl
@[simp] theorem tr_bl (b : Bool) (s : Sto) : truth (.bl b) s = some b := rfl
@[simp] theorem tr_int (i : Int) (s : Sto) : truth (.int i) s = some (i != 0) := rfl
@[simp] theorem tr_non (s : Sto) : truth .non s = some false := rfl
@[simp] theorem tr_tup (xs : List D) (s : Sto) : truth (.tup xs) s = some (!xs.isEmpty) := rfl
@[simp] theorem tr_flst (xs : List D) (s : Sto) : truth (.flst xs) s = some (!xs.isEmpty) := rfl
@[simp] theorem sq_tup (xs : List D) (s : Sto) : sq (.tup xs) s = some (true, xs) := rfl
@[simp] theorem sq_flst (xs : List D) (s : Sto) : sq (.flst xs) s = some (false, xs) := rfl
theorem sq_loc {n : Nat} {s : Sto} {xs : List D} (h : s[n]? = some (.lst xs)) : sq (.loc n) s = some (false, xs) := by simp [sq, h]
@[simp] theorem b1_int (i : Int) (s : Sto) : b1 .int (.int i) s = some (.int i) := rfl
@[simp] theorem b1_bl (b : Bool) (s : Sto) : b1 .int (.bl b) s = some (.int (if b then 1 else 0)) := rfl
@[simp] theorem b1_abs (i : Int) (s : Sto) : b1 .abs (.int i) s = some (.int (if i < 0 then -i else i)) := rfl
@[simp] theorem b1_len_tup (xs : List D) (s : Sto) : b1 .len (.tup xs) s = some (.int xs.length) := rfl
@[simp] theorem b1_len_flst (xs : List D) (s : Sto) : b1 .len (.flst xs) s = some (.int xs.length) := rfl
theorem b1_len_loc {n : Nat} {xs : List D} {s : Sto} (h : s[n]? = some (.lst xs)) : b1 .len (.loc n) s = some (.int xs.length) := by simp [b1, sq, h]
theorem b1_len_str {x : PySem.Str} (h : x.length ≤ 16777216) (s : Sto) : b1 .len (.str x) s = some (.int x.length) := if_pos h
theorem b1_len_sq {d : D} {s : Sto} {q : Bool × List D} (h : sq d s = some q) : b1 .len d s = some (.int q.2.length) := by
  cases d <;> first | (cases h; done) | (unfold b1; simp only [h])
@[simp] theorem isi_non (t : Ty) (s : Sto) : b1 (.isi t) .non s = some (.bl (isTy t .non)) := rfl
@[simp] theorem isi_bl (t : Ty) (b : Bool) (s : Sto) : b1 (.isi t) (.bl b) s = some (.bl (isTy t (.bl b))) := rfl
@[simp] theorem isi_int (t : Ty) (b : Int) (s : Sto) : b1 (.isi t) (.int b) s = some (.bl (isTy t (.int b))) := rfl
@[simp] theorem isi_str (t : Ty) (b : PySem.Str) (s : Sto) : b1 (.isi t) (.str b) s = some (.bl (isTy t (.str b))) := rfl
@[simp] theorem isi_tup (t : Ty) (b : List D) (s : Sto) : b1 (.isi t) (.tup b) s = some (.bl (isTy t (.tup b))) := rfl
@[simp] theorem isi_flst (t : Ty) (b : List D) (s : Sto) : b1 (.isi t) (.flst b) s = some (.bl (isTy t (.flst b))) := rfl
theorem isi_loc {n : Nat} {s : Sto} {xs : List D} (h : s[n]? = some (.lst xs)) (t : Ty) : b1 (.isi t) (.loc n) s = some (.bl (decide (t = .list))) := by simp [b1, isTyR, h]
@[simp] theorem b2_min (i j : Int) : b2 .min (.int i) (.int j) = some (.int (if j < i then j else i)) := rfl
@[simp] theorem b2_max (i j : Int) : b2 .max (.int i) (.int j) = some (.int (if i < j then j else i)) := rfl
@[simp] theorem idx_tup (xs : List D) (i : Int) (s : Sto) : idxR (.tup xs) (.int i) s = item xs i := rfl
@[simp] theorem idx_flst (xs : List D) (i : Int) (s : Sto) : idxR (.flst xs) (.int i) s = item xs i := rfl
theorem idx_loc {n : Nat} {xs : List D} {s : Sto} (h : s[n]? = some (.lst xs)) (i : Int) : idxR (.loc n) (.int i) s = item xs i := by simp [idxR, dicOf, sq, h]
theorem idx_sq {d : D} {s : Sto} {q : Bool × List D} (h : sq d s = some q) (i : Int) : idxR d (.int i) s = item q.2 i := by
  cases d with
  | tup xs => cases h; rfl
  | flst xs => cases h; rfl
  | loc n =>
    have hd : dicOf (.loc n) s = none := by
      unfold sq at h
      unfold dicOf
      simp only at h ⊢
      split at h <;> first | (cases h; done) | skip
      rename_i e
      rw [e]
    unfold idxR
    rw [hd]
    simp only [h]
    rfl
  | _ => cases h
@[simp] theorem slc_flst (xs : List D) (lo hi : Option Int) (s : Sto) : slcR (.flst xs) lo hi s = some (.new (slice xs lo hi)) := rfl
@[simp] theorem slc_tup (xs : List D) (lo hi : Option Int) (s : Sto) : slcR (.tup xs) lo hi s = some (.val (.tup (slice xs lo hi))) := rfl
theorem item_at {xs : List D} {i : Int} (h : 0 ≤ i) (g : i < xs.length) : item xs i = xs[i.toNat]? := by
  unfold item L2.atI L2.ixN
  rw [if_pos h, if_pos g]
  rfl
@[simp] theorem item0 (a : D) (r : List D) : item (a :: r) 0 = some a := by
  rw [item_at (by decide) (by simp)]
  rfl
@[simp] theorem item1 (a b : D) (r : List D) : item (a :: b :: r) 1 = some b := by
  rw [item_at (by decide) (by simp; omega)]
  rfl
@[simp] theorem item2 (a b c : D) (r : List D) : item (a :: b :: c :: r) 2 = some c := by
  rw [item_at (by decide) (by simp; omega)]
  rfl
@[simp] theorem bt_nm (i : Nat) (d : D) (env : Env) : bindTg (.nm i) d env = some (env.set i (some d)) := rfl
@[simp] theorem bt_tp (is : List Nat) (ds : List D) (env : Env) : bindTg (.tp is) (.tup ds) env = setAll env is ds := rfl
@[simp] theorem sa_nil (env : Env) : setAll env [] [] = some env := rfl
@[simp] theorem sa_cons (env : Env) (i : Nat) (is : List Nat) (d : D) (ds : List D) : setAll env (i :: is) (d :: ds) = setAll (env.set i (some d)) is ds := rfl
/-! ### texts of ints -/
theorem str_len (x : String) : (PySem.Str.ofString x).length = x.length := by
  rw [PySem.Str.ofString_eq_toList]
  simp [PySem.Str.length, String.length_toList]
theorem int_text_len {k : Nat} {i : Int} (h : Lg k i) (hk : k ≤ 1900) : (PySem.PyData.shown (.int i)).length ≤ 601 := by
  have h1 : i.natAbs < 10 ^ 600 := Nat.lt_of_lt_of_le (h.up hk) (by decide +kernel)
  have h2 := (Nat.length_repr_le_iff (n := i.natAbs) (by decide : 0 < 600)).mpr h1
  unfold PySem.PyData.shown
  rw [str_len]
  cases i with
  | ofNat n =>
    show (Nat.repr n).length ≤ 601
    exact Nat.le_trans h2 (by decide)
  | negSucc n =>
    show ("-" ++ Nat.repr (n + 1)).length ≤ 601
    rw [String.length_append]
    have : (Nat.repr (n + 1)).length ≤ 600 := h2
    have e : "-".length = 1 := by decide
    omega
theorem repr_int {k : Nat} {i : Int} (h : Lg k i) (hk : k ≤ 1900) (h0 : 0 < k) (s : Sto) : b1 .repr (.int i) s = some (.str (PySem.PyData.shown (.int i))) := by
  have a : (PySem.PyData.int i).showable = true := by
    unfold PySem.PyData.showable
    exact decide_eq_true (by have := h.log h0; omega)
  have b := int_text_len h hk
  unfold b1
  simp only [toPy]
  rw [if_pos]
  simp only [a, Bool.true_and]
  exact decide_eq_true (Nat.le_trans b (by decide))
/-! ### turns of a while loop -/
theorem whl_go {c : Env → Sto → R Bool} {b : Env → Sto → RS} {env env' : Env} {s s1 s' : Sto} (h : c env s = .ok true s1) (g : b env s1 = .ok .nxt env' s') : whl c b env s = whl c b env' s' := by
  rw [whl_eq, h]
  simp only [g]
theorem whl_end {c : Env → Sto → R Bool} {b : Env → Sto → RS} {env : Env} {s s1 : Sto} (h : c env s = .ok false s1) : whl c b env s = .ok .nxt env s1 := by
  rw [whl_eq, h]
theorem whl_brk {c : Env → Sto → R Bool} {b : Env → Sto → RS} {env env' : Env} {s s1 s' : Sto} (h : c env s = .ok true s1) (g : b env s1 = .ok .brk env' s') : whl c b env s = .ok .nxt env' s' := by
  rw [whl_eq, h]
  simp only [g]
/-! ### ranges -/
def irange (n : Nat) : List D := (List.range n).map fun (k : Nat) => D.int (k : Int)
@[simp] theorem irange_len (n : Nat) : (irange n).length = n := by simp [irange]
theorem rg1 {n : Int} (h : 0 ≤ n ∧ n < 4611686018427387904) : rangeOf [.int n] = some (irange n.toNat) := by
  unfold rangeOf
  simp only
  rw [if_pos (by omega)]
  rfl
theorem ei_rng1 {o : Orc} {e : E} {env : Env} {s s' : Sto} {n : Int} (he : ev o e env s = .ok (.val (.int n)) s') (h : 0 ≤ n ∧ n < 4611686018427387904) : evi o (.rng (.cons e .nil)) env s = .ok (.fix (irange n.toNat)) s' := by
  simp [evi, ev, evs, he, rg1 h, srcP]
/-! ### the store -/
theorem set_at {s : Sto} {n : Nat} {c d : Cell} (h : s[n]? = some d) : (s.set n c)[n]? = some c := by
  have hn := (List.getElem?_eq_some_iff.mp h).1
  simp [hn]
theorem app_at {s t : Sto} {n : Nat} {d : Cell} (h : s[n]? = some d) : (s ++ t)[n]? = some d := by
  have hn := (List.getElem?_eq_some_iff.mp h).1
  rw [List.getElem?_append_left hn]
  exact h
theorem app_end {s : Sto} {c : Cell} : (s ++ [c])[s.length]? = some c := by simp
/-! ### calls -/
theorem sweep_ok {s s' : Sto} {d : D} (h1 : (freeze s.length d s').und s.length = true) (h2 : s.length ≤ s'.length) (h3 : KeepsOld s s') : sweep s (.ok d s') = .ok (freeze s.length d s') (s'.take s.length) := by
  unfold sweep
  simp only
  rw [if_pos ⟨h1, h2, h3⟩]
theorem keeps_app {s t : Sto} : KeepsOld s (s ++ t) := fun i hi => .inl (List.getElem?_append_left hi)
theorem keeps_same {s : Sto} : KeepsOld s s := fun i hi => .inl rfl
theorem keeps_set {s : Sto} {n : Nat} {c : Cell} (h : c.und s.length = true) : KeepsOld s (s.set n c) := fun i hi => by
  by_cases e : n = i
  · subst e
    exact .inr ⟨c, by simp [hi], h⟩
  · exact .inl (by rw [List.getElem?_set_ne e])
theorem KeepsOld.app {s s' t : Sto} (h : KeepsOld s s') (hl : s.length ≤ s'.length) : KeepsOld s (s' ++ t) := fun i hi => by
  rw [List.getElem?_append_left (by omega)]
  exact h i hi
/-- nothing new is held: the call leaves the store of its entry -/
theorem und_loc {n k : Nat} (h : D.und n (.loc k) = true) : k < n := by
  unfold D.und at h
  exact of_decide_eq_true h
theorem frz_und {n : Nat} {s : Sto} : ∀ (m : Nat) (d : D), d.und n = true → frz n s m d = d := by
  intro m
  induction m with
  | zero => intro d _; rfl
  | succ m ih =>
    have many : ∀ ds : List D, D.undL n ds = true → ds.map (frz n s m) = ds := by
      intro ds
      induction ds with
      | nil => intro _; rfl
      | cons d ds ih2 =>
        intro h
        unfold D.undL at h
        rw [Bool.and_eq_true] at h
        rw [List.map_cons, ih d h.1, ih2 h.2]
    intro d h
    cases d with
    | loc k => simp only [frz]; rw [if_pos (und_loc h)]
    | tup xs => simp only [frz]; rw [many xs (by unfold D.und at h; exact h)]
    | flst xs => simp only [frz]; rw [many xs (by unfold D.und at h; exact h)]
    | fdk ks xs => simp only [frz]; rw [many xs (by unfold D.und at h; exact h)]
    | fins c fs xs => simp only [frz]; rw [many xs (by unfold D.und at h; exact h)]
    | exc c v => simp only [frz]; rw [ih v (by unfold D.und at h; exact h)]
    | _ => rfl
theorem frz_undL {n m : Nat} {s : Sto} {ds : List D} (h : D.undL n ds = true) : ds.map (frz n s m) = ds := by
  induction ds with
  | nil => rfl
  | cons d ds ih =>
    unfold D.undL at h
    rw [Bool.and_eq_true] at h
    rw [List.map_cons, frz_und m d h.1, ih h.2]
theorem frz_lst {n m k : Nat} {s : Sto} {xs : List D} (h : s[m]? = some (.lst xs)) (hn : n ≤ m) : frz n s (k + 1) (.loc m) = .flst (xs.map (frz n s k)) := by
  simp only [frz]
  rw [if_neg (by omega), h]
theorem frz_dk {n m k : Nat} {s : Sto} {kvs : List (Ky × D)} (h : s[m]? = some (.dk kvs)) (hn : n ≤ m) : frz n s (k + 1) (.loc m) = .fdk (kvs.map (·.1)) (kvs.map fun p => frz n s k p.2) := by
  simp only [frz]
  rw [if_neg (by omega), h]
theorem frz_ins {n m k : Nat} {s : Sto} {c : PySem.Str} {fs : List (PySem.Str × D)} (h : s[m]? = some (.ins c fs)) (hn : n ≤ m) : frz n s (k + 1) (.loc m) = .fins c (fs.map (·.1)) (fs.map fun p => frz n s k p.2) := by
  simp only [frz]
  rw [if_neg (by omega), h]
theorem frz_tup {n k : Nat} {s : Sto} {xs : List D} : frz n s (k + 1) (.tup xs) = .tup (xs.map (frz n s k)) := by simp only [frz]
theorem freeze_und {n : Nat} {s : Sto} {d : D} (h : d.und n = true) : freeze n d s = d := frz_und 9 d h
theorem sweep_val {s t : Sto} {d : D} (hu : d.und s.length = true) : sweep s (.ok d (s ++ t)) = .ok d s := by
  have hf : freeze s.length d (s ++ t) = d := freeze_und hu
  rw [sweep_ok (by rw [hf]; exact hu) (by simp) keeps_app, hf]
  simp
theorem sweep_same {s : Sto} {d : D} (hu : d.und s.length = true) : sweep s (.ok d s) = .ok d s := by
  have := sweep_val (t := []) hu
  rwa [List.append_nil] at this
theorem sweep_new {s t : Sto} {n : Nat} {xs : List D} (h : (s ++ t)[n]? = some (.lst xs)) (hn : s.length ≤ n) (hu : D.undL s.length xs = true) : sweep s (.ok (.loc n) (s ++ t)) = .ok (.flst xs) s := by
  have hf : freeze s.length (.loc n) (s ++ t) = .flst xs := by
    have e := frz_lst (k := 8) h hn
    rw [frz_undL hu] at e
    exact e
  rw [sweep_ok (by rw [hf]; unfold D.und; exact hu) (by simp) keeps_app, hf]
  simp
theorem sweep_set {s t : Sto} {n : Nat} {c : Cell} {d : D} (hc : c.und s.length = true) (hu : d.und s.length = true) : sweep s (.ok d (s.set n c ++ t)) = .ok d (s.set n c) := by
  have hf : freeze s.length d (s.set n c ++ t) = d := freeze_und hu
  rw [sweep_ok (by rw [hf]; exact hu) (by simp) ((keeps_set hc).app (by simp)), hf]
  congr 1
  rw [List.take_append_of_le_length (by simp)]
  rw [List.take_of_length_le (by simp)]
end Mi

/-! # The draws of the laws -/
namespace Mi
open PySem
/-- the body of _law_pot -/
def potB (c1 c2 m1 c3 c4 : Int) : Ss :=
    (.cons (.asg (.nm 2) (.ite (.cmp .lt (.var 1) (.b1 .len (.var 0))) (.idx (.var 0) (.var 1)) (.bin .add (.bin .add (.bin .mod (.bq .sum (.slc (.var 0) (.con .non) (.con (.int 1)))) (.con (.int 1000003))) (.bin .mul (.con (.int c1)) (.var 1))) (.con (.int c2)))))
    (.cons (.asg (.nm 3) (.bin .mul (.bin .mod (.b1 .int (.b1 .abs (.var 2))) (.bin .pow (.bin .pow (.con (.int 10)) (.con (.int 60))) (.con (.int 5)))) (.b1 .int (.cmp .ge (.b1 .abs (.var 2)) (.bin .pow (.con (.int 10)) (.con (.int 18)))))))
    (.cons (.asg (.nm 4) (.bin .mod (.b1 .int (.var 2)) (.con (.int 2305843009213693951))))
    (.cons (.ret (.lst (.cons (.var 3) (.cons (.bin .mod (.b1 .int (.bin .add (.bin .add (.bin .mul (.var 4) (.con (.int m1))) (.bin .mul (.bin .mul (.con (.int c3)) (.var 1)) (.var 1))) (.con (.int c4)))) (.con (.int 2305843009213693921))) (.cons (.con (.int 0)) .nil)))))
    .nil))))
/-- of _law_of; f: _law_take's place -/
def ofB (f : Nat) : Ss := (.cons (.ret (.idx (.var 1) (.fn f (.cons (.var 0) (.cons (.b1 .len (.var 1)) .nil))))) .nil)
/-- of _law_cells -/
def cellsB : Ss := (.cons (.ret (.lrg (.cons (.b2 .max (.con (.int 1)) (.b2 .min (.var 1) (.b1 .len (.var 0)))) .nil))) .nil)
/-- of law: all its cells -/
def cellE (fr fp : Nat) : E := .fn fr (.cons (.fn fp (.cons (.var 0) (.cons (.var 1) .nil))) .nil)
def lawB (fr fp fc : Nat) (most : Int) : Ss := (.cons (.ret (.bq .all (.lc (cellE fr fp) (.nm 1) (.fn fc (.cons (.var 0) (.cons (.con (.int most)) .nil))) [1]))) .nil)
/-- the body of _law_take -/
def takeB (p1 p2 p3 p4 p5 : Int) : Ss :=
    (.cons (.iff (.cmp .gt (.idx (.var 0) (.con (.int 0))) (.con (.int 0))) (.cons (.asg (.nm 2) (.bin .mod (.b1 .int (.idx (.var 0) (.con (.int 0)))) (.var 1)))
    (.cons (.sto (.var 0) (.con (.int 0)) (.bin .fdv (.idx (.var 0) (.con (.int 0))) (.var 1)))
    (.cons (.ret (.var 2))
    .nil))) .nil)
    (.cons (.sto (.var 0) (.con (.int 2)) (.bin .add (.idx (.var 0) (.con (.int 2))) (.con (.int 1))))
    (.cons (.asg (.nm 3) (.idx (.lst (.cons (.con (.int 2147483647)) (.cons (.con (.int 2147483629)) (.cons (.con (.int 2147483587)) (.cons (.con (.int 2147483579)) (.cons (.con (.int 2147483563)) .nil)))))) (.bin .mod (.b1 .int (.idx (.var 0) (.con (.int 2)))) (.con (.int 5)))))
    (.cons (.asg (.nm 4) (.bin .mod (.b1 .int (.bin .pow (.b1 .int (.bin .add (.bin .add (.idx (.var 0) (.con (.int 1))) (.bin .mul (.bin .mul (.con (.int p1)) (.idx (.var 0) (.con (.int 2)))) (.idx (.var 0) (.con (.int 2))))) (.con (.int p2)))) (.con (.int 3)))) (.var 3)))
    (.cons (.asg (.nm 4) (.bin .mod (.b1 .int (.bin .mul (.var 4) (.bin .add (.bin .mod (.b1 .int (.var 4)) (.con (.int p3))) (.bin .mul (.con (.int p4)) (.idx (.var 0) (.con (.int 2))))))) (.con (.int 2305843009213693907))))
    (.cons (.ret (.bin .mod (.b1 .int (.bin .fdv (.var 4) (.con (.int p5)))) (.var 1)))
    .nil))))))
theorem take_own {o : Orc} {p1 p2 p3 p4 p5 : Int} {n : Nat} {a b c u : Int} {s : Sto} (hs : s[n]? = some (.lst [.int a, .int b, .int c])) (ha : 0 < a) (hu : 0 < u) (hu2 : u < 4611686018427387904) :
    runF o ⟨2, 5, takeB p1 p2 p3 p4 p5, none⟩ [.loc n, .int u] s = .ok (.int (a % u)) (s.set n (.lst [.int (a / u), .int b, .int c])) := by
  have m := bin_mod (i := a) hu
  have f := bin_fdv (i := a) (fdv_of hu hu2)
  simp [runF, takeB, putR, evSs, evS, ev, evv, tst, hs, idx_loc hs, ha, m, f]
theorem prime_at {i : Int} (h : 0 ≤ i) (g : i < 5) : ∃ p : Int, item [.int 2147483647, .int 2147483629, .int 2147483587, .int 2147483579, .int 2147483563] i = some (.int p) ∧ 0 < p ∧ p < 2147483648 := by
  have : i = 0 ∨ i = 1 ∨ i = 2 ∨ i = 3 ∨ i = 4 := by omega
  rcases this with rfl | rfl | rfl | rfl | rfl
  · exact ⟨2147483647, rfl, by decide, by decide⟩
  · exact ⟨2147483629, rfl, by decide, by decide⟩
  · exact ⟨2147483587, rfl, by decide, by decide⟩
  · exact ⟨2147483579, rfl, by decide, by decide⟩
  · exact ⟨2147483563, rfl, by decide, by decide⟩
theorem take_drawn {o : Orc} {p1 p2 p3 p4 p5 : Int} {n : Nat} {a b c u : Int} {s : Sto} (hs : s[n]? = some (.lst [.int a, .int b, .int c])) (ha : a ≤ 0) (hu : 0 < u) (hu2 : u < 4611686018427387904) (hb : 0 ≤ b ∧ b < 4611686018427387904) (hc : 0 ≤ c ∧ c < 1099511627776) (h1 : 0 < p1 ∧ p1 < 1048576) (h2 : 0 < p2 ∧ p2 < 1048576) (h3 : 0 < p3 ∧ p3 < 1048576) (h4 : 0 < p4 ∧ p4 < 1024) (h5 : 0 < p5 ∧ p5 < 1024) :
    ∃ r t, runF o ⟨2, 5, takeB p1 p2 p3 p4 p5, none⟩ [.loc n, .int u] s = .ok (.int (r % u)) (s.set n (.lst [.int a, .int b, .int (c + 1)]) ++ t) := by
  have ha' : ¬ 0 < a := by omega
  have hs2 := set_at (c := .lst [.int a, .int b, .int (c + 1)]) hs
  have hs3 := app_at (t := [.lst [.int 2147483647, .int 2147483629, .int 2147483587, .int 2147483579, .int 2147483563]]) hs2
  have m5 := bin_mod (i := c + 1) (j := 5) (by decide)
  obtain ⟨p, hp, hp0, hp1⟩ := prime_at (i := (c + 1) % 5) (by omega) (by omega)
  have hq : ∀ i, idxR (.loc s.length) (.int i) (s.set n (.lst [.int a, .int b, .int (c + 1)]) ++ [.lst [.int 2147483647, .int 2147483629, .int 2147483587, .int 2147483579, .int 2147483563]]) = item [.int 2147483647, .int 2147483629, .int 2147483587, .int 2147483579, .int 2147483563] i := by
    intro i
    refine idx_loc ?_ i
    rw [List.getElem?_append_right (by simp)]
    simp
  have l1 : Lg 62 p1 := lg62 (by omega)
  have lc : Lg 62 (c + 1) := lg62 (by omega)
  have lb : Lg 62 b := lg62 (by omega)
  have lp2 : Lg 62 p2 := lg62 (by omega)
  have k1 := bin_mul (big_of l1 lc (by decide) (by decide) (by decide))
  have l2 := l1.mul lc
  have k2 := bin_mul (big_of l2 lc (by decide) (by decide) (by decide))
  have l3 := l2.mul lc
  have l4 := (lb.up (m := 186) (by decide)).add l3
  have l5 := l4.add (lp2.up (m := 187) (by decide))
  have k3 := bin_pow (i := b + p1 * (c + 1) * (c + 1) + p2) (j := 3) ⟨by decide, by have := bits_of l5; omega⟩
  have k4 := bin_mod (i := (b + p1 * (c + 1) * (c + 1) + p2) ^ (3 : Int).toNat) hp0
  generalize hx : (b + p1 * (c + 1) * (c + 1) + p2) ^ (3 : Int).toNat = x at *
  have hx0 := Int.emod_nonneg x (b := p) (by omega)
  have hx1 := Int.emod_lt_of_pos x hp0
  generalize hy : x % p = y at *
  have k5 := bin_mod (i := y) h3.1
  have k6 := bin_mul (big62 (i := p4) (j := c + 1) (by omega) (by omega))
  have hz0 := Int.emod_nonneg y (b := p3) (by omega)
  have hz1 := Int.emod_lt_of_pos y h3.1
  have hw : p4 * (c + 1) < 1024 * 1099511627777 := by
    have : p4 * (c + 1) ≤ 1023 * (c + 1) := Int.mul_le_mul_of_nonneg_right (by omega) (by omega)
    omega
  have hw0 : 0 ≤ p4 * (c + 1) := Int.mul_nonneg (by omega) (by omega)
  have k7 := bin_mul (i := y) (j := y % p3 + p4 * (c + 1)) (big62 (by omega) (by omega))
  have k8 := bin_mod (i := y * (y % p3 + p4 * (c + 1))) (j := 2305843009213693907) (by decide)
  have k9 := bin_fdv (i := y * (y % p3 + p4 * (c + 1)) % 2305843009213693907) (j := p5) (fdv_of h5.1 (by omega))
  have k10 := bin_mod (i := y * (y % p3 + p4 * (c + 1)) % 2305843009213693907 / p5) hu
  refine ⟨y * (y % p3 + p4 * (c + 1)) % 2305843009213693907 / p5, [.lst [.int 2147483647, .int 2147483629, .int 2147483587, .int 2147483579, .int 2147483563]], ?_⟩
  simp [runF, takeB, putR, evSs, evS, ev, evs, evv, tst, hs, idx_loc hs, ha', idx_loc hs2, idx_loc hs3, m5, sizeMax, hq, hp, k1, k2, k3, k4, k5, k6, k7, k8, k9, k10]
/-- a pot in the store: its draws so far are m at most -/
def Pot (s : Sto) (n : Nat) (m : Int) : Prop := ∃ a b c : Int, s[n]? = some (.lst [.int a, .int b, .int c]) ∧ 0 ≤ b ∧ b < 4611686018427387904 ∧ 0 ≤ c ∧ c ≤ m
/-- a call through the table -/
theorem call_eq {F : Nat → Option FDef} {keep : Nat → Bool} {k f : Nat} {fd : FDef} {ds : List D} {s : Sto} (hF : F f = some fd) (hk : keep f = false) (hl : ds.length = fd.ps) (hc : fd.cl = none := by rfl) : callN F keep (k + 1) f ds s = sweep s (runF (callN F keep k) fd ds s) := by
  rw [callN, hF]
  simp [runX, hc, hl, hk]
theorem call_keep {F : Nat → Option FDef} {keep : Nat → Bool} {k f : Nat} {fd : FDef} {ds : List D} {s : Sto} (hF : F f = some fd) (hk : keep f = true) (hl : ds.length = fd.ps) (hc : fd.cl = none := by rfl) : callN F keep (k + 1) f ds s = runF (callN F keep k) fd ds s := by
  rw [callN, hF]
  simp [runX, hc, hl, hk]
/-- what a table's draws are -/
structure Draws (F : Nat → Option FDef) (keep : Nat → Bool) (fpot ftake fof fcells : Nat) : Prop where
  take : ∃ p1 p2 p3 p4 p5 : Int, F ftake = some ⟨2, 5, takeB p1 p2 p3 p4 p5, none⟩ ∧ keep ftake = false ∧ (0 < p1 ∧ p1 < 1048576) ∧ (0 < p2 ∧ p2 < 1048576) ∧ (0 < p3 ∧ p3 < 1048576) ∧ (0 < p4 ∧ p4 < 1024) ∧ (0 < p5 ∧ p5 < 1024)
  pot : ∃ c1 c2 m1 c3 c4 : Int, F fpot = some ⟨2, 5, potB c1 c2 m1 c3 c4, none⟩ ∧ keep fpot = true ∧ (0 < c1 ∧ c1 < 1048576) ∧ (0 < c2 ∧ c2 < 1048576) ∧ (0 < m1 ∧ m1 < 1048576) ∧ (0 < c3 ∧ c3 < 1048576) ∧ (0 < c4 ∧ c4 < 1048576)
  of_ : F fof = some ⟨2, 2, ofB ftake, none⟩ ∧ keep fof = false
  cells : F fcells = some ⟨2, 2, cellsB, none⟩ ∧ keep fcells = false
section
variable {F : Nat → Option FDef} {keep : Nat → Bool} {pot take of_ cells : Nat} (W : Draws F keep pot take of_ cells)
include W
theorem take_ok {k : Nat} {s : Sto} {n : Nat} {m u : Int} (P : Pot s n m) (hm : m < 1099511627776) (hu : 0 < u) (hu2 : u < 4611686018427387904) :
    ∃ (r : Int) (c : Cell), callN F keep (k + 1) take [.loc n, .int u] s = .ok (.int r) (s.set n c) ∧ 0 ≤ r ∧ r < u ∧ Pot (s.set n c) n (m + 1) ∧ c.und s.length = true := by
  obtain ⟨p1, p2, p3, p4, p5, hF, hk, h1, h2, h3, h4, h5⟩ := W.take
  obtain ⟨a, b, c, hs, hb0, hb1, hc0, hc1⟩ := P
  rw [call_eq hF hk rfl]
  by_cases ha : 0 < a
  · refine ⟨a % u, .lst [.int (a / u), .int b, .int c], ?_, Int.emod_nonneg _ (by omega), Int.emod_lt_of_pos _ hu, ⟨_, b, c, set_at hs, hb0, hb1, hc0, by omega⟩, rfl⟩
    rw [take_own hs ha hu hu2]
    have := sweep_set (s := s) (t := []) (n := n) (c := .lst [.int (a / u), .int b, .int c]) (d := .int (a % u)) rfl rfl
    rwa [List.append_nil] at this
  · obtain ⟨r, t, e⟩ := take_drawn (o := callN F keep k) (p1 := p1) (p2 := p2) (p3 := p3) (p4 := p4) (p5 := p5) hs (by omega) hu hu2 ⟨hb0, hb1⟩ ⟨hc0, by omega⟩ h1 h2 h3 h4 h5
    refine ⟨r % u, .lst [.int a, .int b, .int (c + 1)], ?_, Int.emod_nonneg _ (by omega), Int.emod_lt_of_pos _ hu, ⟨_, b, c + 1, set_at hs, hb0, hb1, by omega, by omega⟩, rfl⟩
    rw [e]
    exact sweep_set rfl rfl
theorem of_ok {k : Nat} {s : Sto} {n : Nat} {m : Int} {d : D} {t : Bool} {xs : List D} (P : Pot s n m) (hm : m < 1099511627776) (h0 : sq d s = some (t, xs)) (h1 : ∀ c, sq d (s.set n c) = some (t, xs)) (hx : xs ≠ []) (hx2 : xs.length < 4611686018427387904) (hu : ∀ x ∈ xs, x.und s.length = true) :
    ∃ (x : D) (c : Cell), callN F keep (k + 2) of_ [.loc n, d] s = .ok x (s.set n c) ∧ x ∈ xs ∧ Pot (s.set n c) n (m + 1) ∧ c.und s.length = true := by
  have hl : 0 < xs.length := List.length_pos_iff.mpr hx
  obtain ⟨r, c, e, r0, r1, P', uc⟩ := take_ok W (k := k) (u := xs.length) P hm (by omega) (by omega)
  have hi : r.toNat < xs.length := by omega
  refine ⟨xs[r.toNat], c, ?_, List.getElem_mem hi, P', uc⟩
  rw [call_eq W.of_.1 W.of_.2 rfl]
  have hit : item xs r = some xs[r.toNat] := by
    rw [item_at r0 r1]
    exact List.getElem?_eq_getElem hi
  have e2 : runF (callN F keep (k + 1)) ⟨2, 2, ofB take, none⟩ [.loc n, d] s = .ok xs[r.toNat] (s.set n c) := by
    simp [runF, ofB, evSs, evS, ev, evs, evv, b1_len_sq h0, e, idx_sq (h1 c), hit]
  rw [e2]
  have := sweep_set (s := s) (t := []) (n := n) (c := c) (d := xs[r.toNat]) uc (hu _ (List.getElem_mem hi))
  rwa [List.append_nil] at this
theorem cells_ok {k : Nat} {s : Sto} {ns : List Int} {most : Int} (hm : 0 < most ∧ most < 1000) : ∃ j : Nat, 0 < j ∧ (j : Int) ≤ most ∧ (1 < j → j ≤ ns.length) ∧ callN F keep (k + 1) cells [.flst (ns.map .int), .int most] s = .ok (.flst ((List.range j).map fun (i : Nat) => D.int (i : Int))) s := by
  refine ⟨(if 1 < (if (ns.length : Int) < most then (ns.length : Int) else most) then (if (ns.length : Int) < most then (ns.length : Int) else most) else 1).toNat, by split <;> split at * <;> omega, by split <;> split at * <;> omega, by split <;> split at * <;> omega, ?_⟩
  rw [call_eq W.cells.1 W.cells.2 rfl]
  generalize hj : (if 1 < (if (ns.length : Int) < most then (ns.length : Int) else most) then (if (ns.length : Int) < most then (ns.length : Int) else most) else 1) = j
  have hj0 : 0 < j ∧ j < 1000 := by rw [← hj]; split <;> split at * <;> omega
  have hr : rangeOf [.int j] = some ((List.range j.toNat).map fun (i : Nat) => D.int (i : Int)) := by
    unfold rangeOf
    simp only
    rw [if_pos (by omega)]
  have e : runF (callN F keep k) ⟨2, 2, cellsB, none⟩ [.flst (ns.map .int), .int most] s = .ok (.loc s.length) (s ++ [.lst ((List.range j.toNat).map fun (i : Nat) => D.int (i : Int))]) := by
    simp [runF, cellsB, evSs, evS, ev, evs, evv, hj, hr, sizeMax, show j.toNat ≤ 16777216 by omega]
  rw [e]
  refine sweep_new app_end (Nat.le_refl _) ?_
  generalize List.range j.toNat = l
  induction l with
  | nil => rfl
  | cons a l ih => exact ih
/-- a pot is made -/
theorem pot_ok {k : Nat} {s : Sto} {ns : List Int} {i : Nat} (hi : i < 1000) (hb : ∀ z ∈ ns, PySem.Builtin.Int.intBits z ≤ 1048576) : ∃ c, callN F keep (k + 1) pot [.flst (ns.map .int), .int i] s = .ok (.loc s.length) (s ++ [c]) ∧ Pot (s ++ [c]) s.length 0 ∧ ∃ a b d, c = .lst [.int a, .int b, .int d] := by
  obtain ⟨c1, c2, m1, c3, c4, hF, hk, h1, h2, h3, h4, h5⟩ := W.pot
  rw [call_keep hF hk rfl]
  -- the cell
  have hcell : ∃ z : Int, (ev (callN F keep k) (.ite (.cmp .lt (.var 1) (.b1 .len (.var 0))) (.idx (.var 0) (.var 1)) (.bin .add (.bin .add (.bin .mod (.bq .sum (.slc (.var 0) (.con .non) (.con (.int 1)))) (.con (.int 1000003))) (.bin .mul (.con (.int c1)) (.var 1))) (.con (.int c2)))) [some (.flst (ns.map .int)), some (.int i), none, none, none] s) = .ok (.val (.int z)) s := by
    by_cases hl : i < ns.length
    · refine ⟨ns[i], ?_⟩
      have hit : item (ns.map .int) (i : Int) = some (.int ns[i]) := by
        rw [item_at (by omega) (by simp; omega)]
        simp [hl]
      simp [ev, hl, hit]
    · have m := bin_mul (big62 (i := c1) (j := i) (by omega) (by omega))
      have hs : ∀ l : List Int, intsOf (l.map .int) = some l := fun l => by
        induction l with
        | nil => rfl
        | cons a l ih => simp [intsOf, ih]
      have hs2 : ∀ (j : Nat) (l : List Int), intsOf (List.take j (l.map .int)) = some (l.take j) := fun j l => by rw [← List.map_take]; exact hs _
      have hsl : slice (ns.map .int) none (some 1) = (ns.take (HT.sIx ns.length ns.length (some 1))).map .int := by
        unfold slice
        have : HT.sIx (ns.map D.int).length 0 none = 0 := rfl
        rw [this]
        simp
      have md : ∀ (z : Int), ∀ s, binR .mod (.int z) (.int 1000003) s = some (.val (.int (z % 1000003))) := fun z => bin_mod (by decide)
      refine ⟨_, by
        simp only [ev, List.getElem?_cons_zero, List.getElem?_cons_succ, R.bindv_val, okv_eq, b1_len_flst, ofOv_some, List.length_map, cm_lt, R.ofO_some, R.bind_ok, tr_bl, Int.ofNat_lt, hl, decide_false]
        simp [part, isNonE, hsl, sqP, bq, hs2, md, m]
        rfl⟩
  obtain ⟨z, hz⟩ := hcell
  have pw1 := bin_pow (i := 10) (j := 60) ⟨by decide, by decide +kernel⟩
  have pw2 := bin_pow (i := 10 ^ (60 : Int).toNat) (j := 5) ⟨by decide, by decide +kernel⟩
  have pw3 := bin_pow (i := 10) (j := 18) ⟨by decide, by decide +kernel⟩
  generalize hz1 : (if z < 0 then -z else z) = w
  have md1 := bin_mod (i := w) (j := (10 ^ (60 : Int).toNat) ^ (5 : Int).toNat) (by decide +kernel)
  have hb1 : 0 ≤ w % ((10 ^ (60 : Int).toNat) ^ (5 : Int).toNat) := Int.emod_nonneg _ (by decide +kernel)
  have hb2 : w % ((10 ^ (60 : Int).toNat) ^ (5 : Int).toNat) < ((10 ^ (60 : Int).toNat) ^ (5 : Int).toNat) := Int.emod_lt_of_pos _ (by decide +kernel)
  generalize hw : w % ((10 ^ (60 : Int).toNat) ^ (5 : Int).toNat) = v at *
  have lv : Lg 1000 v := by
    unfold Lg
    have : ((10 ^ (60 : Int).toNat) ^ (5 : Int).toNat : Int).toNat < 2 ^ 1000 := by decide +kernel
    omega
  have hg : ∀ e : Int, (e = 0 ∨ e = 1) → bigOk v e = true := fun e he => big_of (m := 1) lv (by rcases he with rfl | rfl <;> exact lg_lit (by decide)) (by decide) (by decide) (by decide)
  have mg := fun e he => bin_mul (hg e he)
  have md2 := bin_mod (i := z) (j := 2305843009213693951) (by decide)
  have hc0 := Int.emod_nonneg z (b := 2305843009213693951) (by decide)
  have hc1 := Int.emod_lt_of_pos z (b := 2305843009213693951) (by decide)
  have m1' := bin_mul (big62 (i := z % 2305843009213693951) (j := m1) (by omega) (by omega))
  have m3 := bin_mul (big62 (i := c3) (j := i) (by omega) (by omega))
  have l3 : 0 ≤ c3 * i ∧ c3 * i < 4611686018427387904 := by
    refine ⟨Int.mul_nonneg (by omega) (by omega), ?_⟩
    have : c3 * i ≤ 1048576 * 1000 := Int.mul_le_mul (by omega) (by omega) (by omega) (by decide)
    omega
  have m4 := bin_mul (big62 (i := c3 * i) (j := i) (by omega) (by omega))
  have md3 := bin_mod (i := z % 2305843009213693951 * m1 + c3 * i * i + c4) (j := 2305843009213693921) (by decide)
  have hd0 := Int.emod_nonneg (z % 2305843009213693951 * m1 + c3 * i * i + c4) (b := 2305843009213693921) (by decide)
  have hd1 := Int.emod_lt_of_pos (z % 2305843009213693951 * m1 + c3 * i * i + c4) (b := 2305843009213693921) (by decide)
  have m5 := mg (if decide ((10 : Int) ^ (18 : Int).toNat ≤ w) = true then 1 else 0) (by split <;> simp)
  generalize hg18 : (if decide ((10 : Int) ^ (18 : Int).toNat ≤ w) = true then (1 : Int) else 0) = g at *
  refine ⟨.lst [.int (v * g), .int ((z % 2305843009213693951 * m1 + c3 * i * i + c4) % 2305843009213693921), .int 0], ?_, ⟨_, _, _, app_end, hd0, by omega, by decide, by decide⟩, _, _, _, rfl⟩
  unfold runF potB
  simp only [evSs, evS, evv, List.map_cons, List.map_nil, List.length_cons, List.length_nil, List.replicate, List.cons_append, List.nil_append, hz]
  simp only [R.bind_ok, lay_val, R.toS_ok, bt_nm, List.set_cons_succ, List.set_cons_zero, ev, evs, List.getElem?_cons_zero, List.getElem?_cons_succ, R.bindv_val, okv_eq, b1_abs, ofOv_some, ofOP_some, b1_int, hz1, pw1, pw2, md1, pw3, cm_ge, R.ofO_some, b1_bl, hg18]
  simp [m5, md2, m1', m3, m4, md3, hw, sizeMax]
omit W in
theorem Pot.lt {s : Sto} {n : Nat} {m : Int} (P : Pot s n m) : n < s.length := by
  obtain ⟨a, b, c, h, _⟩ := P
  exact (List.getElem?_eq_some_iff.mp h).1
omit W in
theorem Pot.le {s : Sto} {n : Nat} {m m' : Int} (P : Pot s n m) (h : m ≤ m') : Pot s n m' := by
  obtain ⟨a, b, c, h1, h2, h3, h4, h5⟩ := P
  exact ⟨a, b, c, h1, h2, h3, h4, by omega⟩
omit W in
theorem Pot.app {s t : Sto} {n : Nat} {m : Int} (P : Pot s n m) : Pot (s ++ t) n m := by
  obtain ⟨a, b, c, h1, h⟩ := P
  exact ⟨a, b, c, app_at h1, h⟩
omit W in
theorem Pot.cut {s t : Sto} {n : Nat} {m : Int} (hn : n < s.length) (P : Pot (s ++ t) n m) : Pot s n m := by
  obtain ⟨a, b, c, h1, h⟩ := P
  rw [List.getElem?_append_left hn] at h1
  exact ⟨a, b, c, h1, h⟩
omit W in
theorem set_app {s t : Sto} {n : Nat} {c c' : Cell} (hn : n < s.length) : (s.set n c ++ t).set n c' = s.set n c' ++ t := by
  rw [List.set_append_left _ _ (by simpa using hn), List.set_set]
omit W in
theorem set_app0 {s t : Sto} {n : Nat} {c' : Cell} (hn : n < s.length) : (s ++ t).set n c' = s.set n c' ++ t := by
  rw [List.set_append_left _ _ hn]
/-- a draw, beside things that came since -/
theorem take_at {k : Nat} {s t : Sto} {n : Nat} {c0 : Cell} {m u : Int} (hn : n < s.length) (P : Pot (s.set n c0 ++ t) n m) (hm : m < 1099511627776) (hu : 0 < u) (hu2 : u < 4611686018427387904) :
    ∃ (r : Int) (c : Cell), callN F keep (k + 1) take [.loc n, .int u] (s.set n c0 ++ t) = .ok (.int r) (s.set n c ++ t) ∧ 0 ≤ r ∧ r < u ∧ Pot (s.set n c ++ t) n (m + 1) ∧ c.und s.length = true := by
  obtain ⟨r, c, e, h1, h2, h3, h4⟩ := take_ok W (k := k) P hm hu hu2
  rw [set_app hn] at e h3
  refine ⟨r, c, e, h1, h2, h3, ?_⟩
  obtain ⟨a, b, d, hc, _⟩ := h3
  rw [List.getElem?_append_left (by simpa using hn), List.getElem?_set_self hn] at hc
  cases hc
  rfl
/-- one of a list that came last -/
theorem of_at {k : Nat} {s t : Sto} {n : Nat} {c0 : Cell} {m : Int} {xs : List D} {j : Nat} (hn : n < s.length) (P : Pot (s.set n c0 ++ t) n m) (hm : m < 1099511627776) (hj : (s.set n c0 ++ t)[j]? = some (.lst xs)) (hjn : n ≠ j) (hx : xs ≠ []) (hx2 : xs.length < 4611686018427387904) (hu : ∀ x ∈ xs, x.und (s.length + t.length) = true) :
    ∃ (x : D) (c : Cell), callN F keep (k + 2) of_ [.loc n, .loc j] (s.set n c0 ++ t) = .ok x (s.set n c ++ t) ∧ x ∈ xs ∧ Pot (s.set n c ++ t) n (m + 1) ∧ c.und s.length = true := by
  obtain ⟨x, c, e, h1, h3, h4⟩ := of_ok W (k := k) P hm (sq_loc hj) (fun c => sq_loc (by rw [List.getElem?_set_ne hjn]; exact hj)) hx hx2 (by simpa using hu)
  rw [set_app hn] at e h3
  refine ⟨x, c, e, h1, h3, ?_⟩
  obtain ⟨a, b, d, hc, _⟩ := h3
  rw [List.getElem?_append_left (by simpa using hn), List.getElem?_set_self hn] at hc
  cases hc
  rfl
/-- one of a list of ints that was laid just now -/
theorem of_ints {k : Nat} {s t : Sto} {n : Nat} {c0 : Cell} {m : Int} (L : List Int) {j : Nat} (hn : n < s.length) (P : Pot (s.set n c0 ++ t) n m) (hm : m < 1099511627776) (hj : j = s.length + t.length) (hx : L ≠ []) (hx2 : L.length < 1000) :
    ∃ (r : Int) (c : Cell), callN F keep (k + 2) of_ [.loc n, .loc j] (s.set n c0 ++ (t ++ [.lst (L.map .int)])) = .ok (.int r) (s.set n c ++ (t ++ [.lst (L.map .int)])) ∧ r ∈ L ∧ Pot (s.set n c ++ (t ++ [.lst (L.map .int)])) n (m + 1) ∧ c.und s.length = true := by
  have P' : Pot (s.set n c0 ++ (t ++ [.lst (L.map .int)])) n m := by
    rw [← List.append_assoc]
    exact P.app
  have at_ : (s.set n c0 ++ (t ++ [.lst (L.map .int)]))[j]? = some (.lst (L.map .int)) := by
    subst hj
    rw [List.getElem?_append_right (by simp), List.getElem?_append_right (by simp)]
    simp
  obtain ⟨x, c, e, h1, h2, h3⟩ := of_at W (k := k) hn P' hm at_ (by omega) (by simpa using hx) (by simp; omega) (fun x hx => by
    obtain ⟨i, _, rfl⟩ := List.mem_map.mp hx
    rfl)
  obtain ⟨r, hr, rfl⟩ := List.mem_map.mp h1
  exact ⟨r, c, e, hr, h2, h3⟩
/-- the cells' answers -/
theorem rights {fr : Nat} {ns : List Int} (hb : ∀ z ∈ ns, PySem.Builtin.Int.intBits z ≤ 1048576) {k : Nat} {own : Option D} (hr : ∀ (s : Sto) (n : Nat), Pot s n 0 → ∃ c, callN F keep (k + 1) fr [.loc n] s = .ok (.bl true) (s.set n c)) :
    ∀ (l : List Nat) (s : Sto), (∀ i ∈ l, i < 1000) → ∃ t, mapR (turnC (.nm 1) [1] [some (.flst (ns.map .int)), own] fun env s => ev (callN F keep (k + 1)) (cellE fr pot) env s) (l.map fun (i : Nat) => D.int (i : Int)) s = .ok (l.map fun _ => .bl true) (s ++ t)
  | [], s, _ => ⟨[], by simp [mapR]⟩
  | i :: l, s, hl => by
    obtain ⟨c, e1, P, _⟩ := pot_ok W (k := k) (s := s) (ns := ns) (i := i) (hl i List.mem_cons_self) hb
    obtain ⟨c', e2⟩ := hr _ _ P
    have e3 : (s ++ [c]).set s.length c' = s ++ [c'] := by
      rw [List.set_append_right _ _ (Nat.le_refl _)]
      simp
    rw [e3] at e2
    obtain ⟨t, ih⟩ := rights hb (own := own) hr l (s ++ [c']) fun j hj => hl j (List.mem_cons_of_mem _ hj)
    refine ⟨[c'] ++ t, ?_⟩
    rw [List.append_assoc] at ih
    have st : turnC (.nm 1) [1] [some (.flst (ns.map .int)), own] (fun env s => ev (callN F keep (k + 1)) (cellE fr pot) env s) (.int i) s = .ok (.bl true) (s ++ [c']) := by
      simp [turnC, wipe, cellE, ev, evs, e1, e2]
    rw [List.map_cons]
    unfold mapR
    rw [st]
    simp only [R.bind_ok, ih]
    rfl
/-- a law of that shape -/
theorem law_all {fr fl : Nat} {most : Int} (hF : F fl = some ⟨1, 2, lawB fr pot cells most, none⟩) (hk : keep fl = false) (hm : 0 < most ∧ most < 1000) {ns : List Int} (hb : ∀ z ∈ ns, PySem.Builtin.Int.intBits z ≤ 1048576) {k : Nat}
    (hr : ∀ (s : Sto) (n : Nat), Pot s n 0 → ∃ c, callN F keep (k + 1) fr [.loc n] s = .ok (.bl true) (s.set n c)) : ∃ s, callN F keep (k + 2) fl (scr ns) [] = .ok (.bl true) s := by
  obtain ⟨j, j0, j1, _, ec⟩ := cells_ok W (k := k) (s := []) (ns := ns) (most := most) hm
  obtain ⟨t, e⟩ := rights W hb (own := none) hr (List.range j) [] (fun i hi => by have := List.mem_range.mp hi; omega)
  refine ⟨[], (call_eq hF hk rfl).trans ?_⟩
  have hb2 : ∀ l : List Nat, boolsOf (l.map fun _ => D.bl true) = some (l.map fun _ => true) := fun l => by
    induction l with
    | nil => rfl
    | cons a l ih => simp [boolsOf, ih]
  have hj : j ≤ 16777216 := by omega
  have : runF (callN F keep (k + 1)) ⟨1, 2, lawB fr pot cells most, none⟩ (scr ns) [] = .ok (.bl true) ([] ++ t) := by
    simp [runF, lawB, scr, evSs, evS, ev, evs, evv, ec, srcP, e, sizeMax, hj, sqP, bq, hb2]
  rw [this]
  exact sweep_val rfl
end
end Mi

/-! # Walking with a pot -/
namespace Mi
open PySem
/-! ### trees -/
theorem undL_all {n : Nat} {xs : List D} (h : ∀ x ∈ xs, x.und n = true) : D.undL n xs = true := by
  induction xs with
  | nil => rfl
  | cons x xs ih =>
    unfold D.undL
    rw [h x List.mem_cons_self, ih fun y hy => h y (List.mem_cons_of_mem _ hy)]
    rfl
theorem undL_map {α : Type} {n : Nat} {l : List α} {g : α → D} (h : ∀ a ∈ l, (g a).und n = true) : D.undL n (l.map g) = true := undL_all fun x hx => by
  obtain ⟨a, ha, rfl⟩ := List.mem_map.mp hx
  exact h a ha
@[simp] theorem und_str (n : Nat) (x : Str) : (D.str x).und n = true := rfl
@[simp] theorem und_int (n : Nat) (x : Int) : (D.int x).und n = true := rfl
@[simp] theorem und_bl (n : Nat) (x : Bool) : (D.bl x).und n = true := rfl
@[simp] theorem und_non (n : Nat) : D.non.und n = true := rfl
@[simp] theorem und_tup (n : Nat) (xs : List D) : (D.tup xs).und n = D.undL n xs := by unfold D.und; rfl
@[simp] theorem und_flst (n : Nat) (xs : List D) : (D.flst xs).und n = D.undL n xs := by unfold D.und; rfl
@[simp] theorem und_fdk (n : Nat) (ks : List Ky) (xs : List D) : (D.fdk ks xs).und n = D.undL n xs := by unfold D.und; rfl
@[simp] theorem und_fins (n : Nat) (c : Str) (ks : List Str) (xs : List D) : (D.fins c ks xs).und n = D.undL n xs := by unfold D.und; rfl
@[simp] theorem undL_nil (n : Nat) : D.undL n [] = true := by unfold D.undL; rfl
@[simp] theorem undL_cons (n : Nat) (x : D) (xs : List D) : D.undL n (x :: xs) = (x.und n && D.undL n xs) := by rw [D.undL]
/-! ### dicts, None -/
@[simp] theorem isN_tup (xs : List D) (s : Sto) : cmpop .isN (.tup xs) .non s = some false := rfl
@[simp] theorem isN_non (s : Sto) : cmpop .isN .non .non s = some true := rfl
@[simp] theorem isN_int (i : Int) (s : Sto) : cmpop .isN (.int i) .non s = some false := rfl
@[simp] theorem isN_str (i : Str) (s : Sto) : cmpop .isN (.str i) .non s = some false := rfl
theorem dic_loc {n : Nat} {s : Sto} {kvs : List (Ky × D)} (h : s[n]? = some (.dk kvs)) : dicOf (.loc n) s = some kvs := by simp [dicOf, h]
@[simp] theorem dic_fdk (ks : List Ky) (vs : List D) (s : Sto) : dicOf (.fdk ks vs) s = some (ks.zip vs) := rfl
theorem in_dk {n : Nat} {s : Sto} {kvs : List (Ky × D)} (h : s[n]? = some (.dk kvs)) (x : Str) : cmpop .inn (.str x) (.loc n) s = some (kGet kvs (.inr x)).isSome := by simp [cmpop, inR, dicOf, h, keyOf]
@[simp] theorem in_fdk (ks : List Ky) (vs : List D) (x : Str) (s : Sto) : cmpop .inn (.str x) (.fdk ks vs) s = some (kGet (ks.zip vs) (.inr x)).isSome := rfl
@[simp] theorem nin_fdk (ks : List Ky) (vs : List D) (x : Str) (s : Sto) : cmpop .nin (.str x) (.fdk ks vs) s = some (!(kGet (ks.zip vs) (.inr x)).isSome) := rfl
theorem idx_dk {n : Nat} {s : Sto} {kvs : List (Ky × D)} (h : s[n]? = some (.dk kvs)) (x : Str) : idxR (.loc n) (.str x) s = kGet kvs (.inr x) := by simp [idxR, dicOf, h, keyOf]
@[simp] theorem idx_fdk (ks : List Ky) (vs : List D) (x : Str) (s : Sto) : idxR (.fdk ks vs) (.str x) s = kGet (ks.zip vs) (.inr x) := rfl
theorem put_dk {n : Nat} {s : Sto} {kvs : List (Ky × D)} (h : s[n]? = some (.dk kvs)) (x : Str) (d : D) (hl : kvs.length < sizeMax) : putR (.loc n) (.str x) d s = some (s.set n (.dk (kPut kvs (.inr x) d))) := by simp [putR, h, keyOf, hl]
theorem app_mth {n : Nat} {s : Sto} {xs : List D} (h : s[n]? = some (.lst xs)) (d : D) (hl : xs.length < sizeMax) : mthR .append (.loc n) [d] s = some (.val .non, s.set n (.lst (xs ++ [d]))) := by simp [mthR, h, hl]
theorem mty_loc {n : Nat} {s : Sto} {xs : List D} (h : s[n]? = some (.lst xs)) {f : Mt} (hf : f.isStr = false) : mtTy f (.loc n) s = true := by simp [mtTy, hf, lstOf, h]
/-! ### slices -/
theorem slice_tail (xs : List D) : slice xs (some 1) none = xs.drop 1 := by
  unfold slice HT.sIx
  cases xs with
  | nil => rfl
  | cons a r =>
    have : ¬ (1 : Int) < 0 := by decide
    simp only [this, if_false]
    rw [show min (1 : Int).toNat (a :: r).length = 1 from by simp]
    exact List.take_of_length_le (by simp)
theorem slice_take (xs : List D) {k : Int} (h : 0 ≤ k) : slice xs none (some k) = xs.take k.toNat := by
  unfold slice HT.sIx
  simp only [show ¬ k < 0 by omega, if_false, List.drop_zero, Nat.sub_zero]
  rcases Nat.le_total k.toNat xs.length with q | q
  · rw [Nat.min_eq_left q]
  · rw [Nat.min_eq_right q, List.take_of_length_le q, List.take_of_length_le (Nat.le_refl _)]
theorem item3 (a b c d : D) (r : List D) : item (a :: b :: c :: d :: r) 3 = some d := by
  rw [item_at (by decide) (by simp; omega)]
  rfl
/-! ### many times -/
theorem mapR_map {α β : Type} {f : D → Sto → R β} {h : α → D} {g : α → β} {s : Sto} : ∀ {l : List α}, (∀ a ∈ l, f (h a) s = .ok (g a) s) → mapR f (l.map h) s = .ok (l.map g) s
  | [], _ => rfl
  | a :: l, q => by
    rw [List.map_cons, List.map_cons, mapR, q a List.mem_cons_self]
    simp only [R.bind_ok]
    rw [mapR_map fun b hb => q b (List.mem_cons_of_mem _ hb)]
    rfl
theorem mapR_grow {α β : Type} {f : D → Sto → R β} {h : α → D} {g : α → β} {s : Sto} : ∀ {l : List α} {t : List Cell}, (∀ a ∈ l, ∀ t, ∃ u, f (h a) (s ++ t) = .ok (g a) (s ++ t ++ u)) → ∃ u, mapR f (l.map h) (s ++ t) = .ok (l.map g) (s ++ t ++ u)
  | [], t, _ => ⟨[], by simp [mapR]⟩
  | a :: l, t, q => by
    obtain ⟨u, e⟩ := q a List.mem_cons_self t
    obtain ⟨u2, e2⟩ := mapR_grow (l := l) (t := t ++ u) fun b hb => q b (List.mem_cons_of_mem _ hb)
    refine ⟨u ++ u2, ?_⟩
    rw [List.map_cons, List.map_cons, mapR, e]
    simp only [R.bind_ok]
    rw [List.append_assoc] at e2 ⊢
    rw [e2]
    simp only [R.bind_ok, List.append_assoc]
/-- with what holds between the turns; what each gives -/
theorem mapR_inv {α β : Type} {f : D → Sto → R β} {h : α → D} (I : Nat → Sto → Prop) (Q : α → β → Prop) : ∀ {l : List α} {i : Nat} {s : Sto}, I i s → (∀ a ∈ l, ∀ j s, i ≤ j → j < i + l.length → I j s → ∃ b s', f (h a) s = .ok b s' ∧ I (j + 1) s' ∧ Q a b) →
    ∃ bs s', mapR f (l.map h) s = .ok bs s' ∧ I (i + l.length) s' ∧ bs.length = l.length ∧ ∀ (j : Nat) a b, l[j]? = some a → bs[j]? = some b → Q a b
  | [], i, s, p, _ => ⟨[], s, rfl, p, rfl, fun j a b ha => by simp at ha⟩
  | a :: l, i, s, p, q => by
    obtain ⟨b, s1, e1, p1, q1⟩ := q a List.mem_cons_self i s (Nat.le_refl _) (by simp) p
    obtain ⟨bs, s2, e2, p2, n2, q2⟩ := mapR_inv (f := f) (h := h) I Q (l := l) (i := i + 1) p1 fun x hx j s hj hj2 => q x (List.mem_cons_of_mem _ hx) j s (by omega) (by simp only [List.length_cons]; omega)
    refine ⟨b :: bs, s2, ?_, by rw [List.length_cons, show i + (l.length + 1) = i + 1 + l.length by omega]; exact p2, by simp [n2], fun j x y hx hy => ?_⟩
    · rw [List.map_cons, mapR, e1]
      simp only [R.bind_ok, e2]
    · cases j with
      | zero => simp only [List.getElem?_cons_zero, Option.some.injEq] at hx hy; subst hx hy; exact q1
      | succ j => exact q2 j x y (by simpa using hx) (by simpa using hy)
theorem turns_inv {α : Type} {f : D → Env → Sto → RS} {h : α → D} (I : Nat → Env → Sto → Prop) (J : Env → Sto → Prop) : ∀ {l : List α} {i : Nat} {env : Env} {s : Sto}, I i env s →
    (∀ (k : Nat) a, l[k]? = some a → ∀ env s, I (i + k) env s → ∃ env' s', (f (h a) env s = .ok .nxt env' s' ∧ I (i + k + 1) env' s') ∨ (f (h a) env s = .ok .brk env' s' ∧ J env' s')) →
    ∃ env' s', turns f (l.map h) env s = .ok .nxt env' s' ∧ (I (i + l.length) env' s' ∨ J env' s')
  | [], i, env, s, p, _ => ⟨env, s, rfl, .inl p⟩
  | a :: l, i, env, s, p, q => by
    obtain ⟨env1, s1, ⟨e1, p1⟩ | ⟨e1, p1⟩⟩ := q 0 a rfl env s p
    · obtain ⟨env2, s2, e2, p2⟩ := turns_inv (f := f) (h := h) I J (l := l) (i := i + 1) p1 fun k x hx env s p => by
        have := q (k + 1) x (by simpa using hx) env s (by rw [show i + (k + 1) = i + 1 + k by omega]; exact p)
        rw [show i + (k + 1) = i + 1 + k by omega] at this
        exact this
      refine ⟨env2, s2, ?_, by rw [List.length_cons, show i + (l.length + 1) = i + 1 + l.length by omega]; exact p2⟩
      rw [List.map_cons, turns, e1]
      exact e2
    · exact ⟨env1, s1, by rw [List.map_cons, turns, e1], .inr p1⟩
theorem turns_all {α : Type} {f : D → Env → Sto → RS} {h : α → D} (I : Nat → Env → Sto → Prop) {l : List α} {env : Env} {s : Sto} (p : I 0 env s)
    (q : ∀ (k : Nat) a, l[k]? = some a → ∀ env s, I k env s → ∃ env' s', f (h a) env s = .ok .nxt env' s' ∧ I (k + 1) env' s') : ∃ env' s', turns f (l.map h) env s = .ok .nxt env' s' ∧ I l.length env' s' := by
  obtain ⟨env', s', e, z | z⟩ := turns_inv (f := f) (h := h) I (fun _ _ => False) (i := 0) p fun k a ha env s p => by
    rw [Nat.zero_add] at p ⊢
    obtain ⟨env', s', e, z⟩ := q k a ha env s p
    exact ⟨env', s', .inl ⟨e, z⟩⟩
  · rw [Nat.zero_add] at z
    exact ⟨env', s', e, z⟩
  · exact z.elim
/-- along a source that stands for xs as long as I holds -/
theorem mapG_inv {β : Type} {f : D → Sto → R β} {src : Src} {xs : List D} (I : Nat → Sto → Prop) (Q : D → β → Prop) (hg : ∀ i S, I i S → srcGet src i S = xs[i]?) (he : ∀ S, I xs.length S → srcEnd src xs.length S = true)
    (q : ∀ i d S, xs[i]? = some d → I i S → ∃ b S', f d S = .ok b S' ∧ I (i + 1) S' ∧ Q d b) : ∀ (k i : Nat) (S : Sto), k + i = xs.length → I i S → ∃ bs S', mapG f src k i S = .ok bs S' ∧ I xs.length S' ∧ bs.length = k ∧ ∀ (j : Nat) a b, xs[i + j]? = some a → bs[j]? = some b → Q a b
  | 0, i, S, e, p => by
    have : i = xs.length := by omega
    subst this
    exact ⟨[], S, by simp [mapG, he S p], p, rfl, fun j a b _ hb => by simp at hb⟩
  | k + 1, i, S, e, p => by
    have hi : i < xs.length := by omega
    obtain ⟨b, S1, e1, p1, q1⟩ := q i xs[i] S (List.getElem?_eq_getElem hi) p
    obtain ⟨bs, S2, e2, p2, n2, q2⟩ := mapG_inv I Q hg he q k (i + 1) S1 (by omega) p1
    refine ⟨b :: bs, S2, ?_, p2, by simp [n2], fun j x y hx hy => ?_⟩
    · simp only [mapG, hg i S p, List.getElem?_eq_getElem hi, e1, R.bind_ok, e2]
    · cases j with
      | zero =>
        simp only [Nat.add_zero, List.getElem?_eq_getElem hi, List.getElem?_cons_zero, Option.some.injEq] at hx hy
        subst hx hy
        exact q1
      | succ j => exact q2 j x y (by rw [show i + 1 + j = i + (j + 1) by omega]; exact hx) (by simpa using hy)
theorem mapSrc_at {β : Type} {f : D → Sto → R β} {l : Nat} {xs : List D} {s : Sto} (I : Nat → Sto → Prop) (Q : D → β → Prop) (hI : ∀ i S, I i S → S[l]? = some (.lst xs)) (p : I 0 s)
    (q : ∀ i d S, xs[i]? = some d → I i S → ∃ b S', f d S = .ok b S' ∧ I (i + 1) S' ∧ Q d b) : ∃ bs S', mapSrc f (.at_ l xs.length) s = .ok bs S' ∧ I xs.length S' ∧ bs.length = xs.length ∧ ∀ (j : Nat) a b, xs[j]? = some a → bs[j]? = some b → Q a b := by
  obtain ⟨bs, S', h1, h2, h3, h4⟩ := mapG_inv (f := f) (src := .at_ l xs.length) I Q (fun i S h => by simp only [srcGet, hI i S h]) (fun S h => by simp only [srcEnd, hI _ S h]; exact decide_eq_true (Nat.le_refl _)) q xs.length 0 s rfl p
  exact ⟨bs, S', h1, h2, h3, fun j a b ha hb => h4 j a b (by rw [Nat.zero_add]; exact ha) hb⟩
/-! ### two lists; a list and its numbers -/
def zips (a b : List D) : List D := (a.zip b).map fun p => .tup [p.1, p.2]
def enums (a : List D) : List D := a.zipIdx.map fun p => .tup [.int (p.2 : Int), p.1]
theorem zips_len (a b : List D) : (zips a b).length = min a.length b.length := by simp [zips]
theorem zip_get (a b : List D) (i : Nat) (s : Sto) : srcGet (.zip (.fix a) (.fix b)) i s = (zips a b)[i]? := by
  simp only [srcGet, zips, List.getElem?_map, List.zip, List.getElem?_zipWith]
  cases a[i]? <;> cases b[i]? <;> rfl
theorem enu_get (a : List D) (i : Nat) (s : Sto) : srcGet (.enu (.fix a)) i s = (enums a)[i]? := by
  simp only [srcGet, enums, List.getElem?_map, List.getElem?_zipIdx, Nat.zero_add]
  cases a[i]? <;> rfl
theorem mapG_like {β : Type} (f : D → Sto → R β) {src : Src} {xs : List D} (h : ∀ i s, srcGet src i s = xs[i]?) (g : ∀ s, srcEnd src xs.length s = true) : ∀ (k i : Nat) (s : Sto), k + i = xs.length → mapG f src k i s = mapR f (xs.drop i) s
  | 0, i, s, e => by
    rw [List.drop_of_length_le (by omega)]
    have : i = xs.length := by omega
    simp [mapG, mapR, this, g]
  | k + 1, i, s, e => by
    have hi : i < xs.length := by omega
    rw [List.drop_eq_getElem_cons hi]
    simp only [mapG, mapR, h, List.getElem?_eq_getElem hi]
    congr 1
    funext x s1
    rw [mapG_like f h g k (i + 1) s1 (by omega)]
theorem turnsG_like (f : D → Env → Sto → RS) {src : Src} {xs : List D} (h : ∀ i s, srcGet src i s = xs[i]?) (g : ∀ s, srcEnd src xs.length s = true) : ∀ (k i : Nat) (env : Env) (s : Sto), k + i = xs.length → turnsG f src k i env s = turns f (xs.drop i) env s
  | 0, i, env, s, e => by
    rw [List.drop_of_length_le (by omega)]
    have : i = xs.length := by omega
    simp [turnsG, turns, this, g]
  | k + 1, i, env, s, e => by
    have hi : i < xs.length := by omega
    rw [List.drop_eq_getElem_cons hi]
    simp only [turnsG, turns, h, List.getElem?_eq_getElem hi]
    cases f xs[i] env s with
    | no => rfl
    | ex _ _ _ _ => rfl
    | ok fl env' s' => cases fl <;> simp only [turnsG_like f h g k (i + 1) _ _ (by omega)]
theorem zip_end (a b : List D) (s : Sto) : srcEnd (.zip (.fix a) (.fix b)) (zips a b).length s = true := by
  simp only [srcEnd, srcOk, zips_len, Bool.and_self, Bool.and_true, Bool.or_eq_true, decide_eq_true_eq]
  omega
theorem enu_end (a : List D) (s : Sto) : srcEnd (.enu (.fix a)) (enums a).length s = true := by simp [srcEnd, enums]
@[simp] theorem mapSrc_zip {β : Type} (f : D → Sto → R β) (a b : List D) (s : Sto) : mapSrc f (.zip (.fix a) (.fix b)) s = mapR f (zips a b) s := by
  unfold mapSrc
  rw [mapG_like f (fun i s => zip_get a b i s) (fun s => zip_end a b s) _ 0 s (by simp [srcLen, zips_len])]
  rfl
@[simp] theorem turnsSrc_zip (f : D → Env → Sto → RS) (a b : List D) (env : Env) (s : Sto) : turnsSrc f (.zip (.fix a) (.fix b)) env s = turns f (zips a b) env s := by
  unfold turnsSrc
  rw [turnsG_like f (fun i s => zip_get a b i s) (fun s => zip_end a b s) _ 0 env s (by simp [srcLen, zips_len])]
  rfl
@[simp] theorem mapSrc_enu {β : Type} (f : D → Sto → R β) (a : List D) (s : Sto) : mapSrc f (.enu (.fix a)) s = mapR f (enums a) s := by
  unfold mapSrc
  rw [mapG_like f (fun i s => enu_get a i s) (fun s => enu_end a s) _ 0 s (by simp [srcLen, enums])]
  rfl
@[simp] theorem turnsSrc_enu (f : D → Env → Sto → RS) (a : List D) (env : Env) (s : Sto) : turnsSrc f (.enu (.fix a)) env s = turns f (enums a) env s := by
  unfold turnsSrc
  rw [turnsG_like f (fun i s => enu_get a i s) (fun s => enu_end a s) _ 0 env s (by simp [srcLen, enums])]
  rfl
/-! ### a pot -/
/-- the store b, its pot at n drawn from m times at most, and t behind it -/
def Pz (b : Sto) (n : Nat) (t : List Cell) (m : Int) (S : Sto) : Prop := n < b.length ∧ ∃ x y z : Int, S = b.set n (.lst [.int x, .int y, .int z]) ++ t ∧ 0 ≤ y ∧ y < 4611686018427387904 ∧ 0 ≤ z ∧ z ≤ m
section
variable {b S S' : Sto} {n : Nat} {t u : List Cell} {m m' : Int}
theorem Pz.len (P : Pz b n t m S) : S.length = b.length + t.length := by
  obtain ⟨_, x, y, z, rfl, _⟩ := P
  simp
theorem Pz.get (P : Pz b n t m S) (j : Nat) : S[b.length + j]? = t[j]? := by
  obtain ⟨_, x, y, z, rfl, _⟩ := P
  rw [List.getElem?_append_right (by simp)]
  simp
theorem Pz.app (P : Pz b n t m S) : Pz b n (t ++ u) m (S ++ u) := by
  obtain ⟨h, x, y, z, rfl, g⟩ := P
  exact ⟨h, x, y, z, by simp, g⟩
theorem Pz.put (P : Pz b n t m S) (j : Nat) (c : Cell) : Pz b n (t.set j c) m (S.set (b.length + j) c) := by
  obtain ⟨h, x, y, z, rfl, g⟩ := P
  refine ⟨h, x, y, z, ?_, g⟩
  rw [List.set_append_right _ _ (by simp)]
  simp
theorem Pz.le (P : Pz b n t m S) (h : m ≤ m') : Pz b n t m' S := by
  obtain ⟨q, x, y, z, e, g1, g2, g3, g4⟩ := P
  exact ⟨q, x, y, z, e, g1, g2, g3, by omega⟩
theorem Pz.lt (P : Pz b n t m S) : n < S.length := by
  have := P.len
  have := P.1
  omega
theorem Pz.here (P : Pz b n t m S) : Pz S n [] m S := by
  have l := P.lt
  obtain ⟨h, x, y, z, e, g⟩ := P
  refine ⟨l, x, y, z, ?_, g⟩
  rw [List.append_nil]
  apply List.ext_getElem?
  intro i
  by_cases q : n = i
  · subst q
    rw [List.getElem?_set_self l, e, List.getElem?_append_left (by simpa using h), List.getElem?_set_self h]
  · rw [List.getElem?_set_ne q]
theorem Pz.out (P : Pz b n t m S) (P' : Pz S n u m' S') : Pz b n (t ++ u) m' S' := by
  obtain ⟨h, x, y, z, rfl, g⟩ := P
  obtain ⟨h', x', y', z', rfl, g'⟩ := P'
  refine ⟨h, x', y', z', ?_, g'⟩
  rw [List.set_append_left _ _ (by simpa using h), List.set_set, List.append_assoc]
theorem Pz.out0 (P : Pz b n t m S) (P' : Pz S n [] m' S') : Pz b n t m' S' := by
  have := P.out P'
  rwa [List.append_nil] at this
theorem Pz.pot (P : Pz b n t m S) : Pot S n m := by
  have l := P.1
  obtain ⟨h, x, y, z, rfl, g⟩ := P
  refine ⟨x, y, z, ?_, g⟩
  rw [List.getElem?_append_left (by simpa using l), List.getElem?_set_self l]
theorem Pz.of_pot (P : Pot S n m) : Pz S n [] m S := by
  have l := P.lt
  obtain ⟨x, y, z, e, g⟩ := P
  refine ⟨l, x, y, z, ?_, g⟩
  rw [List.append_nil]
  apply List.ext_getElem?
  intro i
  by_cases q : n = i
  · subst q
    rw [List.getElem?_set_self l, e]
  · rw [List.getElem?_set_ne q]
theorem Pz.set (P : Pz b n t m S) {c : Cell} (Q : Pot (S.set n c) n m') : Pz b n t m' (S.set n c) := by
  have l := P.lt
  refine P.out0 ?_
  obtain ⟨x, y, z, e, g⟩ := Q
  rw [List.getElem?_set_self l] at e
  cases e
  exact ⟨l, x, y, z, by simp, g⟩
/-- a call's end -/
theorem Pz.sweep (P : Pz b n t m S) {d r : D} (hf : freeze b.length d S = r) (hu : r.und b.length = true) : ∃ S', Mi.sweep b (.ok d S) = .ok r S' ∧ Pz b n [] m S' := by
  subst hf
  have l := P.len
  refine ⟨S.take b.length, sweep_ok hu (by omega) ?_, ?_⟩
  · obtain ⟨h, x, y, z, rfl, g⟩ := P
    exact (keeps_set (by simp [Cell.und])).app (by simp)
  · obtain ⟨h, x, y, z, rfl, g⟩ := P
    refine ⟨h, x, y, z, ?_, g⟩
    rw [List.take_append_of_le_length (by simp), List.take_of_length_le (by simp), List.append_nil]
theorem Pz.sweep0 (P : Pz b n t m S) {d : D} (hu : d.und b.length = true) : ∃ S', Mi.sweep b (.ok d S) = .ok d S' ∧ Pz b n [] m S' := P.sweep (freeze_und hu) hu
/-- a list that was made is handed back -/
theorem Pz.sweepL (P : Pz b n t m S) {j : Nat} {xs : List D} (hj : t[j]? = some (.lst xs)) (hu : D.undL b.length xs = true) : ∃ S', Mi.sweep b (.ok (.loc (b.length + j)) S) = .ok (.flst xs) S' ∧ Pz b n [] m S' := by
  refine P.sweep ?_ (by simpa using hu)
  have e := frz_lst (n := b.length) (k := 8) ((P.get j).trans hj) (Nat.le_add_right _ _)
  rw [frz_undL hu] at e
  exact e
end
/-- the last made -/
theorem Pz.fresh {b S : Sto} {n : Nat} {t : List Cell} {m : Int} (P : Pz b n t m S) (c : Cell) : (S ++ [c])[S.length]? = some c := by simp
section
variable {F : Nat → Option FDef} {keep : Nat → Bool} {fp ft fo fc : Nat} (W : Draws F keep fp ft fo fc)
include W
theorem Pz.take {k : Nat} {b S : Sto} {n : Nat} {t : List Cell} {m u : Int} (P : Pz b n t m S) (hm : m < 1099511627776) (hu : 0 < u ∧ u < 4611686018427387904) :
    ∃ (r : Int) (S' : Sto), callN F keep (k + 1) ft [.loc n, .int u] S = .ok (.int r) S' ∧ (0 ≤ r ∧ r < u) ∧ Pz b n t (m + 1) S' := by
  obtain ⟨r, c, e, h1, h2, h3, _⟩ := take_ok W (k := k) P.pot hm hu.1 hu.2
  exact ⟨r, _, e, ⟨h1, h2⟩, P.set h3⟩
/-- one of a list, of a tuple -/
theorem Pz.of_ {k : Nat} {b S : Sto} {n : Nat} {t : List Cell} {m : Int} {d : D} {q : Bool} {xs : List D} (P : Pz b n t m S) (hm : m < 1099511627776) (h0 : ∀ c, sq d (S.set n c) = some (q, xs)) (hx : xs ≠ []) (hx2 : xs.length < 4611686018427387904) (hu : ∀ x ∈ xs, x.und S.length = true) :
    ∃ (x : D) (S' : Sto), callN F keep (k + 2) fo [.loc n, d] S = .ok x S' ∧ x ∈ xs ∧ Pz b n t (m + 1) S' := by
  have hs : ∃ c, S = S.set n c := by
    obtain ⟨x, y, z, e, _⟩ := P.here.2
    exact ⟨_, by rw [List.append_nil] at e; exact e⟩
  obtain ⟨c0, hc0⟩ := hs
  obtain ⟨x, c, e, h1, h3, _⟩ := of_ok W (k := k) P.pot hm (by rw [hc0]; exact h0 c0) h0 hx hx2 hu
  exact ⟨x, _, e, h1, P.set h3⟩
/-- one of a list that stands in the store -/
theorem Pz.of_at {k : Nat} {b S : Sto} {n : Nat} {t : List Cell} {m : Int} {j : Nat} {xs : List D} (P : Pz b n t m S) (hm : m < 1099511627776) (hj : S[j]? = some (.lst xs)) (hne : n ≠ j) (hx : xs ≠ []) (hx2 : xs.length < 4611686018427387904) (hu : ∀ x ∈ xs, x.und S.length = true) :
    ∃ (x : D) (S' : Sto), callN F keep (k + 2) fo [.loc n, .loc j] S = .ok x S' ∧ x ∈ xs ∧ Pz b n t (m + 1) S' := by
  refine P.of_ W hm (fun c => sq_loc ?_) hx hx2 hu
  rw [List.getElem?_set_ne hne]
  exact hj
/-- one of ints laid just now -/
theorem Pz.of_new {k : Nat} {b S : Sto} {n : Nat} {t : List Cell} {m : Int} {xs : List D} (P : Pz b n t m S) (hm : m < 1099511627776) (hx : xs ≠ []) (hx2 : xs.length < 4611686018427387904) (hu : ∀ x ∈ xs, x.und (S.length + 1) = true) :
    ∃ (x : D) (S' : Sto), callN F keep (k + 2) fo [.loc n, .loc S.length] (S ++ [.lst xs]) = .ok x S' ∧ x ∈ xs ∧ Pz b n (t ++ [.lst xs]) (m + 1) S' :=
  P.app.of_at W hm (P.fresh _) (Nat.ne_of_lt P.lt) hx hx2 (by simpa using hu)
/-- a sign of a text -/
theorem Pz.of_str {k : Nat} {b S : Sto} {n : Nat} {t : List Cell} {m : Int} {x : Str} (P : Pz b n t m S) (hm : m < 1099511627776) (hx : 1 ≤ x.length) (hx2 : x.length ≤ 16777216) :
    ∃ (c : Nat) (S' : Sto), callN F keep (k + 2) fo [.loc n, .str x] S = .ok (.str ⟨#[c]⟩) S' ∧ c ∈ x.cps.toList ∧ Pz b n t (m + 1) S' := by
  obtain ⟨r, S1, e1, ⟨r0, r1⟩, P1⟩ := P.here.take W (k := k) (u := (x.length : Int)) hm (by omega)
  have hr : r.toNat < x.cps.toList.length := by
    unfold Str.length at r1
    simp
    omega
  have at_ : L2.atI x.cps.toList r = some x.cps.toList[r.toNat] := by
    unfold L2.atI L2.ixN
    rw [if_pos r0, if_pos (by simp at hr ⊢; omega)]
    exact List.getElem?_eq_getElem hr
  have ix : idxR (.str x) (.int r) S1 = some (.str ⟨#[x.cps.toList[r.toNat]]⟩) := by
    simp only [idxR, dicOf]
    rw [if_pos (show x.length ≤ sizeMax from hx2), at_]
    rfl
  have l := b1_len_str hx2 S
  have e2 : runF (callN F keep (k + 1)) ⟨2, 2, ofB ft, none⟩ [.loc n, .str x] S = .ok (.str ⟨#[x.cps.toList[r.toNat]]⟩) S1 := by
    simp [runF, ofB, evSs, evS, ev, evs, evv, l, e1, ix]
  obtain ⟨S', e3, P'⟩ := P1.sweep0 (d := .str ⟨#[x.cps.toList[r.toNat]]⟩) rfl
  refine ⟨_, S', ?_, List.getElem_mem hr, P.out0 P'⟩
  rw [call_eq W.of_.1 W.of_.2 rfl, e2, e3]
end
theorem Pz.same {b S : Sto} {n : Nat} {t : List Cell} {m : Int} (P : Pz b n t m S) {j : Nat} (hj : j < b.length) (h : n ≠ j) : S[j]? = b[j]? := by
  obtain ⟨_, x, y, z, rfl, _⟩ := P
  rw [List.getElem?_append_left (by simpa using hj), List.getElem?_set_ne h]
/-! ### last of a list -/
theorem item_last (xs : List D) (a : D) : item (xs ++ [a]) (-1) = some a := by
  unfold item L2.atI L2.ixN
  rw [if_neg (by decide), if_pos (by simp; omega)]
  have e : ((-1 : Int) + ((xs ++ [a]).length : Int)).toNat = xs.length := by
    rw [List.length_append, List.length_singleton]
    omega
  show (xs ++ [a])[((-1 : Int) + ((xs ++ [a]).length : Int)).toNat]? = some a
  rw [e]
  simp
theorem zip_snoc {α : Type} : ∀ (w : List α) (a x : α), (w ++ [a] ++ [x]).zip (w ++ [a] ++ [x]).tail = (w ++ [a]).zip (w ++ [a]).tail ++ [(a, x)]
  | [], a, x => rfl
  | [b], a, x => rfl
  | b :: c :: w, a, x => by
    have ih := zip_snoc (c :: w) a x
    simp only [List.cons_append, List.tail_cons, List.zip_cons_cons] at ih ⊢
    rw [← ih]
/-! ### statement by statement -/
def Ss.hd : Ss → S
  | .cons s _ => s
  | .nil => .pass
def Ss.tl : Ss → Ss
  | .cons _ r => r
  | .nil => .nil
theorem evSs_step {o : Orc} {b : Ss} {env env' : Env} {s s' : Sto} (h : evS o b.hd env s = .ok .nxt env' s') : evSs o b env s = evSs o b.tl env' s' := by
  cases b with
  | nil =>
    simp only [Ss.hd, evS] at h
    cases h
    rfl
  | cons st r =>
    rw [evSs]
    simp only [Ss.hd] at h
    rw [h]
    rfl
/-- what is handed back -/
def RS.back : RS → Option (D × Sto)
  | .ok (.ret d) _ s => some (d, s)
  | _ => none
theorem runF_back {o : Orc} {fd : FDef} {ds : List D} {s s' : Sto} {d : D} (h : (evSs o fd.body (ds.map some ++ List.replicate (fd.names - ds.length) none) s).back = some (d, s')) : runF o fd ds s = .ok d s' := by
  unfold runF
  generalize evSs o fd.body (ds.map some ++ List.replicate (fd.names - ds.length) none) s = r at *
  cases r with
  | no => cases h
  | ex _ _ _ _ => cases h
  | ok f env s2 =>
    cases f with
    | ret v => cases h; rfl
    | _ => cases h
/-! ### what many turns gave -/
theorem allQ {α β : Type} {l : List α} {bs : List β} {Q : α → β → Prop} (hl : bs.length = l.length) (h : ∀ (j : Nat) a b, l[j]? = some a → bs[j]? = some b → Q a b) : ∀ b ∈ bs, ∃ a ∈ l, Q a b := fun b hb => by
  obtain ⟨j, hj, e⟩ := List.mem_iff_getElem.mp hb
  have hj2 : j < l.length := by omega
  exact ⟨l[j], List.getElem_mem hj2, h j _ _ (List.getElem?_eq_getElem hj2) (by rw [List.getElem?_eq_getElem hj, e])⟩
theorem unmap {α β : Type} {bs : List β} {g : α → β} {p : α → Prop} (h : ∀ b ∈ bs, ∃ a, b = g a ∧ p a) : ∃ as : List α, bs = as.map g ∧ ∀ a ∈ as, p a := by
  induction bs with
  | nil => exact ⟨[], rfl, fun a ha => nomatch ha⟩
  | cons b bs ih =>
    obtain ⟨a, e, pa⟩ := h b List.mem_cons_self
    obtain ⟨as, e2, pas⟩ := ih fun x hx => h x (List.mem_cons_of_mem _ hx)
    refine ⟨a :: as, by rw [e, e2]; rfl, fun x hx => ?_⟩
    rcases List.mem_cons.mp hx with rfl | hx
    · exact pa
    · exact pas x hx
/-- as many unlike ones do not fit into fewer -/
theorem fit_len {α : Type} [DecidableEq α] : ∀ {l f : List α}, l.Nodup → (∀ x ∈ l, x ∈ f) → l.length ≤ f.length
  | [], _, _, _ => Nat.zero_le _
  | x :: l, f, hn, h => by
    obtain ⟨h1, h2⟩ := List.nodup_cons.mp hn
    have hx := h x List.mem_cons_self
    have := fit_len (l := l) (f := f.erase x) h2 fun y hy => by
      have ne : y ≠ x := fun e => h1 (e ▸ hy)
      exact (List.mem_erase_of_ne ne).mpr (h y (List.mem_cons_of_mem _ hy))
    rw [List.length_erase_of_mem hx] at this
    have : 0 < f.length := List.length_pos_of_mem hx
    rw [List.length_cons]
    omega
theorem irange_map (n : Nat) : irange n = (List.range n).map fun (k : Nat) => D.int (k : Int) := rfl
end Mi

/-! # Webs of roads, ways, puttings: plain -/
namespace Mi
open PySem
/-! ### texts -/
/-- a name: letters from a to z -/
structure Nm (x : Str) : Prop where
  one : 1 ≤ x.length
  few : x.length ≤ 8
  abc : ∀ c ∈ TL.tl x, 97 ≤ c ∧ c ≤ 122
theorem Nm.free {x : Str} (h : Nm x) {s : Nat} (hs : s < 97 ∨ 122 < s) : s ∉ TL.tl x := fun m => by
  have := h.abc s m
  omega
def sp : Str := " "
def nl : Str := "\n"
theorem tl_sp : TL.tl sp = [32] := by decide +kernel
theorem tl_nl : TL.tl nl = [10] := by decide +kernel
theorem sp_len : sp.length = 1 := by decide +kernel
theorem nl_len : nl.length = 1 := by decide +kernel
theorem len_app (x y : Str) : (x ++ y).length = x.length + y.length := PySem.strLen_append x y
theorem sum_le {l : List Nat} {n B : Nat} (h : ∀ a ∈ l, a ≤ B) (hn : l.length ≤ n) : l.sum ≤ n * B := by
  have : l.sum ≤ l.length * B := by
    clear hn
    induction l with
    | nil => simp
    | cons a l ih =>
      have a1 := h a List.mem_cons_self
      have a2 := ih fun b hb => h b (List.mem_cons_of_mem _ hb)
      rw [List.sum_cons, List.length_cons, Nat.succ_mul]
      omega
  exact Nat.le_trans this (Nat.mul_le_mul_right _ hn)
/-- all that join needs -/
theorem join_fits {ys : List Str} {a : Str} {n B : Nat} (h : ∀ y ∈ ys, y.length ≤ B) (hn : ys.length ≤ n) (ha : a.length ≤ 1) (hb : n * B + n + 2 ≤ 16777216) :
    (ys.map (·.length)).sum + ys.length * a.length ≤ sizeMax ∧ (Txt.join a ys).length + 2 ≤ sizeMax := by
  have s1 : (ys.map (·.length)).sum ≤ n * B := sum_le (fun k hk => by
    obtain ⟨y, hy, rfl⟩ := List.mem_map.mp hk
    exact h y hy) (by simpa using hn)
  have s2 : ys.length * a.length ≤ ys.length * 1 := Nat.mul_le_mul_left _ ha
  have s3 : (Txt.join a ys).length ≤ (ys.map (·.length)).sum + ys.length * a.length := by
    rw [TL.join_eq]
    exact StrLaws.join_length_le a ys
  unfold sizeMax
  omega
theorem split_sp {ps : List Str} (hne : ps ≠ []) (h : ∀ p ∈ ps, 32 ∉ TL.tl p) : Txt.split (Txt.join sp ps) sp = ps := TL.split_join tl_sp (by decide +kernel) hne h
theorem split_nl {ps : List Str} (hne : ps ≠ []) (h : ∀ p ∈ ps, 10 ∉ TL.tl p) : Txt.split (Txt.join nl ps) nl = ps := TL.split_join tl_nl (by decide +kernel) hne h
/-- what stands in a joined text -/
theorem join_free {ps : List Str} {a : Str} {c : Nat} (h : ∀ p ∈ ps, c ∉ TL.tl p) (ha : c ∉ TL.tl a) : c ∉ TL.tl (Txt.join a ps) := by
  rw [TL.join_eq]
  induction ps with
  | nil => exact fun m => nomatch m
  | cons p ps ih =>
    cases ps with
    | nil => exact h p List.mem_cons_self
    | cons q ps =>
      show c ∉ TL.tl (p ++ a ++ Str.join a (q :: ps))
      rw [TL.tl_append, TL.tl_append]
      intro m
      rcases List.mem_append.mp m with m | m
      · rcases List.mem_append.mp m with m | m
        · exact h p List.mem_cons_self m
        · exact ha m
      · exact ih (fun p hp => h p (List.mem_cons_of_mem _ hp)) m
/-- joined texts of unlike parts are unlike -/
theorem join_inj {ps qs : List Str} (hp : ∀ p ∈ ps, 10 ∉ TL.tl p) (hq : ∀ p ∈ qs, 10 ∉ TL.tl p) (h1 : ps ≠ []) (h2 : qs ≠ []) (e : Txt.join nl ps = Txt.join nl qs) : ps = qs := by
  rw [← split_nl h1 hp, e, split_nl h2 hq]
/-! ### numbers as texts -/
def numS (i : Nat) : Str := Str.ofString (toString ((i : Nat) : Int))
theorem tl_numS (i : Nat) : TL.tl (numS i) = TL.numL i := TL.tl_num i
theorem numS_len {i : Nat} (h : i ≤ 999999999) : 1 ≤ (numS i).length ∧ (numS i).length ≤ 9 := by
  rw [TL.len_tl, tl_numS]
  have a := TL.numL_ne i
  have b := TL.numL_len (n := i) (k := 9) (by decide) (by have : 10 ^ 9 = 1000000000 := by decide
                                                          omega)
  have : 0 < (TL.numL i).length := List.length_pos_iff.mpr a
  omega
theorem numS_free {i s : Nat} (h : s < 48 ∨ 57 < s) : s ∉ TL.tl (numS i) := by
  rw [tl_numS]
  exact TL.numL_free h
theorem numS_int {i : Nat} (h : i ≤ 999999999) : intText? (numS i) = some (i : Int) := TL.int_num (by
  have := (numS_len h).2
  rw [TL.len_tl, tl_numS] at this
  omega)
theorem numL_head {n : Nat} (h : n ≠ 0) : ∃ c r, TL.numL n = c :: r ∧ c ≠ 48 := by
  induction n using Nat.strongRecOn with
  | _ n ih =>
    by_cases hn : n < 10
    · exact ⟨48 + n, [], TL.numL_lt hn, by omega⟩
    · obtain ⟨c, r, e, hc⟩ := ih (n / 10) (by omega) (by omega)
      exact ⟨c, r ++ [48 + n % 10], by rw [TL.numL_step (by omega), e]; rfl, hc⟩
/-! ### names in lists -/
theorem strsOf_map (l : List Str) : strsOf (l.map .str) = some l := by
  induction l with
  | nil => rfl
  | cons a l ih => simp [strsOf, ih]
theorem intsOf_map (l : List Int) : intsOf (l.map .int) = some l := by
  induction l with
  | nil => rfl
  | cons a l ih => simp [intsOf, ih]
theorem boolsOf_true {α : Type} (l : List α) : boolsOf (l.map fun _ => D.bl true) = some (l.map fun _ => true) := by
  induction l with
  | nil => rfl
  | cons a l ih => simp [boolsOf, ih]
theorem boolsOf_map {α : Type} (l : List α) (g : α → Bool) : boolsOf (l.map fun a => D.bl (g a)) = some (l.map g) := by
  induction l with
  | nil => rfl
  | cons a l ih => simp [boolsOf, ih]
theorem all_true {α : Type} (l : List α) : (l.map fun _ => true).all id = true := by
  induction l with
  | nil => rfl
  | cons a l ih => simp
theorem bq_all {α : Type} {l : List α} : bq .all false (l.map fun _ => D.bl true) = some (.bl true) := by
  simp [bq, boolsOf_true]
theorem bq_all' {α : Type} {l : List α} {g : α → D} (h : ∀ a ∈ l, g a = .bl true) : bq .all false (l.map g) = some (.bl true) := by
  rw [List.map_congr_left h]
  exact bq_all
theorem join_mth {s : Sto} {d : D} {q : Bool} {xs : List D} {ys : List Str} {a : Str} (h : sq d s = some (q, xs)) (st : strsOf xs = some ys) (f : (ys.map (·.length)).sum + ys.length * a.length ≤ sizeMax) : mthR .join (.str a) [d] s = some (.val (.str (Txt.join a ys)), s) := by
  simp only [mthR, h, st]
  rw [if_pos f]
/-- the unlike ones of unlike ones -/
theorem dedS_nodup (l : List Str) (h : l.Nodup) : dedS l = l := by
  have : ∀ (l acc : List Str), l.Nodup → (∀ x ∈ l, x ∉ acc) → l.foldl (fun l x => if x ∈ l then l else l ++ [x]) acc = acc ++ l := by
    intro l
    induction l with
    | nil => intro acc _ _; simp
    | cons x l ih =>
      intro acc hn hd
      rw [List.foldl_cons, if_neg (hd x List.mem_cons_self), ih _ (List.nodup_cons.mp hn).2 fun y hy => ?_]
      · simp
      · intro m
        rcases List.mem_append.mp m with m | m
        · exact hd y (List.mem_cons_of_mem _ hy) m
        · rw [List.mem_singleton.mp m] at hy
          exact (List.nodup_cons.mp hn).1 hy
  exact this l [] h fun x _ => by simp
/-! ### names that are made -/
def LETTS : Str := "abcdefghijklmnopqrstuvwxyz"
theorem tl_LETTS : TL.tl LETTS = (List.range 26).map (97 + ·) := by decide +kernel
theorem mem_LETTS {c : Nat} (h : c ∈ LETTS.cps.toList) : 97 ≤ c ∧ c ≤ 122 := by
  have e : LETTS.cps.toList = (List.range 26).map (97 + ·) := tl_LETTS
  rw [e] at h
  obtain ⟨i, hi, rfl⟩ := List.mem_map.mp h
  have := List.mem_range.mp hi
  omega
theorem glue_letters (cs : List Nat) : TL.tl (Txt.join "" (cs.map fun c => (⟨#[c]⟩ : Str))) = cs := by
  have e : TL.tl ("" : Str) = [] := by decide +kernel
  rw [TL.join_eq, TL.tl_join, e]
  induction cs with
  | nil => rfl
  | cons c cs ih =>
    cases cs with
    | nil => rfl
    | cons d cs =>
      show [c] ++ ([] ++ TL.joinL [] ((d :: cs).map (fun c => (⟨#[c]⟩ : Str)) |>.map TL.tl)) = _
      rw [ih]
      rfl
theorem nm_glue {cs : List Nat} (h1 : 1 ≤ cs.length) (h2 : cs.length ≤ 8) (h : ∀ c ∈ cs, 97 ≤ c ∧ c ≤ 122) : Nm (Txt.join "" (cs.map fun c => (⟨#[c]⟩ : Str))) := by
  refine ⟨?_, ?_, ?_⟩
  · rw [TL.len_tl, glue_letters]; exact h1
  · rw [TL.len_tl, glue_letters]; exact h2
  · rw [glue_letters]; exact h
/-- another first letter -/
def other (x : Str) (c : Nat) : Str := ⟨#[c]⟩ ++ L2.cutS x (some 1) none
theorem tl_cut1 (x : Str) : TL.tl (L2.cutS x (some 1) none) = (TL.tl x).drop 1 := by
  unfold L2.cutS HT.sIx
  rw [TL.tl_mk, TL.len_tl, show x.cps.toList = TL.tl x from rfl]
  generalize TL.tl x = L
  cases L with
  | nil => rfl
  | cons a r =>
    simp only [show ¬ (1 : Int) < 0 by decide, if_false]
    have m : min (1 : Int).toNat (a :: r).length = 1 := by simp
    rw [m]
    show List.take ((a :: r).length - 1) r = r
    rw [show (a :: r).length - 1 = r.length from rfl, List.take_length]
theorem tl_other (x : Str) (c : Nat) : TL.tl (other x c) = c :: (TL.tl x).drop 1 := by
  unfold other
  rw [TL.tl_append, tl_cut1]
  rfl
theorem nm_other {x : Str} (h : Nm x) {c : Nat} (hc : 97 ≤ c ∧ c ≤ 122) : Nm (other x c) := by
  have h1 := h.one
  have h2 := h.few
  rw [TL.len_tl] at h1 h2
  refine ⟨?_, ?_, ?_⟩
  · rw [TL.len_tl, tl_other]; simp
  · rw [TL.len_tl, tl_other]; simp; omega
  · rw [tl_other]
    intro d hd
    rcases List.mem_cons.mp hd with rfl | hd
    · exact hc
    · exact h.abc d (List.mem_of_mem_drop hd)
def others (x : Str) : List Str := x :: LETTS.cps.toList.map (other x)
theorem nm_others {x : Str} (h : Nm x) : ∀ y ∈ others x, Nm y := by
  intro y hy
  rcases List.mem_cons.mp hy with rfl | hy
  · exact h
  · obtain ⟨c, hc, rfl⟩ := List.mem_map.mp hy
    exact nm_other h (mem_LETTS hc)
theorem others_new (x : Str) {found : List Str} (hf : found.length < 26) : ∃ y r, (others x).filter (fun y => decide (y ∉ found)) = y :: r := by
  cases h : (others x).filter (fun y => decide (y ∉ found)) with
  | cons y r => exact ⟨y, r, rfl⟩
  | nil =>
    have all : ∀ y ∈ LETTS.cps.toList.map (other x), y ∈ found := fun y hy => by
      by_cases q : y ∈ found
      · exact q
      · have : y ∈ (others x).filter (fun y => decide (y ∉ found)) := List.mem_filter.mpr ⟨List.mem_cons_of_mem _ hy, by simpa using q⟩
        rw [h] at this
        cases this
    have nd : (LETTS.cps.toList.map (other x)).Nodup := by
      have e : LETTS.cps.toList = (List.range 26).map (97 + ·) := tl_LETTS
      rw [e, List.map_map]
      unfold List.Nodup
      rw [List.pairwise_map]
      refine List.Pairwise.imp ?_ (List.nodup_range (n := 26))
      intro a b hab q
      have q2 := congrArg TL.tl q
      simp only [Function.comp, tl_other] at q2
      have := List.head_eq_of_cons_eq q2
      omega
    have := fit_len nd all
    have e : LETTS.cps.toList = (List.range 26).map (97 + ·) := tl_LETTS
    rw [List.length_map, e] at this
    simp at this
    omega
/-! ### roads -/
structure Rd where
  nm : Str
  fr : Str
  to : Str
def Rd.d (r : Rd) : D := .tup [.str r.nm, .str r.fr, .str r.to]
def Rd.e (r : Rd) : D := .tup [.str r.fr, .str r.to]
def rdW : Str := "road"
def Rd.ws (r : Rd) : List Str := [rdW, r.nm, r.fr, r.to]
def Rd.line (r : Rd) : Str := Txt.join sp r.ws
structure Rd.Ok (r : Rd) : Prop where
  nm : Nm r.nm
  fr : Nm r.fr
  to : Nm r.to
  ne : r.fr ≠ r.to
structure Own (own : List Rd) : Prop where
  ok : ∀ r ∈ own, r.Ok
  uniq : (own.map (·.nm)).Nodup
  few : own.length ≤ 60
  ne : own ≠ []
def webText (own : List Rd) : Str := Txt.join nl (own.map Rd.line)
theorem Nm.len {x : Str} (h : Nm x) : x.length ≤ 8 := h.few
theorem Rd.Ok.parts {r : Rd} (h : r.Ok) : ∀ p ∈ r.ws, 32 ∉ TL.tl p ∧ 10 ∉ TL.tl p ∧ p.length ≤ 8 := by
  intro p hp
  simp only [Rd.ws, List.mem_cons, List.not_mem_nil, or_false] at hp
  rcases hp with rfl | rfl | rfl | rfl
  · decide +kernel
  · exact ⟨h.nm.free (s := 32) (by decide), h.nm.free (s := 10) (by decide), h.nm.few⟩
  · exact ⟨h.fr.free (s := 32) (by decide), h.fr.free (s := 10) (by decide), h.fr.few⟩
  · exact ⟨h.to.free (s := 32) (by decide), h.to.free (s := 10) (by decide), h.to.few⟩
theorem Rd.Ok.split {r : Rd} (h : r.Ok) : Txt.split r.line sp = r.ws := split_sp (by simp [Rd.ws]) fun p hp => (h.parts p hp).1
theorem Rd.Ok.free {r : Rd} (h : r.Ok) : 10 ∉ TL.tl r.line := join_free (fun p hp => (h.parts p hp).2.1) (by rw [tl_sp]; decide)
theorem Rd.Ok.fits {r : Rd} (h : r.Ok) : (r.ws.map (·.length)).sum + 4 * sp.length ≤ sizeMax ∧ r.line.length ≤ 36 := by
  have a := join_fits (ys := r.ws) (a := sp) (n := 4) (B := 8) (fun p hp => (h.parts p hp).2.2) (by simp [Rd.ws]) (Nat.le_of_eq sp_len) (by decide)
  refine ⟨a.1, ?_⟩
  have := StrLaws.join_length_le sp r.ws
  unfold Rd.line
  rw [TL.join_eq]
  have s : (r.ws.map (·.length)).sum ≤ 4 * 8 := sum_le (fun k hk => by
    obtain ⟨y, hy, rfl⟩ := List.mem_map.mp hk
    exact (h.parts y hy).2.2) (by simp [Rd.ws])
  rw [sp_len, show r.ws.length = 4 from rfl] at this
  omega
theorem Own.lines {own : List Rd} (h : Own own) : Txt.split (webText own) nl = own.map Rd.line := split_nl (by simpa using h.ne) fun p hp => by
  obtain ⟨r, hr, rfl⟩ := List.mem_map.mp hp
  exact (h.ok r hr).free
theorem Own.fits {own : List Rd} (h : Own own) : ((own.map Rd.line).map (·.length)).sum + (own.map Rd.line).length * nl.length ≤ sizeMax ∧ (webText own).length + 2 ≤ sizeMax :=
  join_fits (n := 60) (B := 36) (fun p hp => by
    obtain ⟨r, hr, rfl⟩ := List.mem_map.mp hp
    exact (h.ok r hr).fits.2) (by simpa using h.few) (Nat.le_of_eq nl_len) (by decide)
/-- the road of that name -/
def road (own : List Rd) (x : Str) : Option Rd := own.find? fun r => decide (r.nm = x)
theorem kGet_road (own : List Rd) (x : Str) (v : Rd → D) : kGet (own.map fun r => ((.inr r.nm : Ky), v r)) (.inr x) = (road own x).map v := by
  unfold kGet road
  induction own with
  | nil => rfl
  | cons r own ih =>
    rw [List.map_cons, List.find?_cons, List.find?_cons]
    by_cases e : r.nm = x
    · simp [e]
    · simp only [Sum.inr.injEq, e, decide_false]
      exact ih
theorem zip_own (own : List Rd) (v : Rd → D) : (own.map fun r => (.inr r.nm : Ky)).zip (own.map v) = own.map fun r => ((.inr r.nm : Ky), v r) := by
  induction own with
  | nil => rfl
  | cons r own ih => simp [ih]
theorem road_of {own : List Rd} {r : Rd} (h : Own own) (hr : r ∈ own) : road own r.nm = some r := by
  have hu := h.uniq
  clear h
  unfold road
  induction own with
  | nil => cases hr
  | cons q own ih =>
    rw [List.find?_cons]
    rw [List.map_cons, List.nodup_cons] at hu
    rcases List.mem_cons.mp hr with rfl | hr
    · simp
    · have : q.nm ≠ r.nm := fun e => hu.1 (by rw [e]; exact List.mem_map_of_mem hr)
      simp only [this, decide_false]
      exact ih hr hu.2
theorem road_some {own : List Rd} {x : Str} {r : Rd} (h : road own x = some r) : r ∈ own ∧ r.nm = x := ⟨List.mem_of_find?_eq_some h, by simpa using List.find?_some h⟩
theorem road_in {own : List Rd} {x : Str} (h : x ∈ own.map (·.nm)) : ∃ r, road own x = some r := by
  obtain ⟨r, hr, rfl⟩ := List.mem_map.mp h
  unfold road
  cases e : own.find? fun q => decide (q.nm = r.nm) with
  | some q => exact ⟨q, rfl⟩
  | none =>
    have := List.find?_eq_none.mp e r hr
    simp at this
/-! ### ways -/
structure Way (own : List Rd) (w : List Str) : Prop where
  ne : w ≠ []
  few : w.length ≤ 12
  uniq : w.Nodup
  of : ∀ x ∈ w, x ∈ own.map (·.nm)
  on : ∀ p ∈ w.zip w.tail, ∃ r q, road own p.1 = some r ∧ road own p.2 = some q ∧ r.to = q.fr
/-- a beat, a way -/
abbrev Putt := Nat × List Str
def putD (p : Putt) : D := .tup [.int (p.1 : Int), .tup (p.2.map .str)]
def putL (p : Putt) : Str := Txt.join sp (numS p.1 :: p.2)
def rowText (row : List Putt) : Str := Txt.join nl (row.map putL)
theorem und_put (n : Nat) (p : Putt) : (putD p).und n = true := by
  unfold putD
  rw [und_tup, undL_cons, undL_cons, und_tup, und_int, undL_nil, undL_map fun x _ => rfl]
  rfl
structure Row (own : List Rd) (row : List Putt) : Prop where
  ok : ∀ p ∈ row, p.1 ≤ 100000 ∧ Way own p.2
  up : (row.map (·.1)).Pairwise (· ≤ ·)
  few : row.length ≤ 20000
theorem Way.nm {own : List Rd} {w : List Str} (ho : Own own) (h : Way own w) {x : Str} (hx : x ∈ w) : Nm x := by
  obtain ⟨r, hr, rfl⟩ := List.mem_map.mp (h.of x hx)
  exact (ho.ok r hr).nm
theorem put_parts {own : List Rd} {p : Putt} (ho : Own own) (h1 : p.1 ≤ 100000) (h : Way own p.2) : ∀ q ∈ numS p.1 :: p.2, 32 ∉ TL.tl q ∧ 10 ∉ TL.tl q ∧ q.length ≤ 9 := by
  intro q hq
  rcases List.mem_cons.mp hq with rfl | hq
  · exact ⟨numS_free (s := 32) (by decide), numS_free (s := 10) (by decide), (numS_len (by omega)).2⟩
  · have n := h.nm ho hq
    exact ⟨n.free (s := 32) (by decide), n.free (s := 10) (by decide), by have := n.few; omega⟩
theorem put_split {own : List Rd} {p : Putt} (ho : Own own) (h1 : p.1 ≤ 100000) (h : Way own p.2) : Txt.split (putL p) sp = numS p.1 :: p.2 := split_sp (by simp) fun q hq => (put_parts ho h1 h q hq).1
theorem put_free {own : List Rd} {p : Putt} (ho : Own own) (h1 : p.1 ≤ 100000) (h : Way own p.2) : 10 ∉ TL.tl (putL p) := join_free (fun q hq => (put_parts ho h1 h q hq).2.1) (by rw [tl_sp]; decide)
theorem put_fits {own : List Rd} {p : Putt} (ho : Own own) (h1 : p.1 ≤ 100000) (h : Way own p.2) : ((numS p.1 :: p.2).map (·.length)).sum + (numS p.1 :: p.2).length * sp.length ≤ sizeMax ∧ (putL p).length ≤ 130 := by
  have a := join_fits (ys := numS p.1 :: p.2) (a := sp) (n := 13) (B := 9) (fun q hq => (put_parts ho h1 h q hq).2.2) (by have := h.few; simp; omega) (Nat.le_of_eq sp_len) (by decide)
  refine ⟨a.1, ?_⟩
  have := StrLaws.join_length_le sp (numS p.1 :: p.2)
  unfold putL
  rw [TL.join_eq]
  have s : ((numS p.1 :: p.2).map (·.length)).sum ≤ 13 * 9 := sum_le (fun k hk => by
    obtain ⟨y, hy, rfl⟩ := List.mem_map.mp hk
    exact (put_parts ho h1 h y hy).2.2) (by have := h.few; simp; omega)
  have hf := h.few
  rw [sp_len] at this
  simp only [List.length_cons] at this
  omega
theorem Row.fits {own : List Rd} {row : List Putt} (ho : Own own) (h : Row own row) : ((row.map putL).map (·.length)).sum + (row.map putL).length * nl.length ≤ sizeMax ∧ (rowText row).length + 2 ≤ sizeMax :=
  join_fits (n := 20000) (B := 130) (fun p hp => by
    obtain ⟨r, hr, rfl⟩ := List.mem_map.mp hp
    exact (put_fits ho (h.ok r hr).1 (h.ok r hr).2).2) (by simpa using h.few) (Nat.le_of_eq nl_len) (by decide)
theorem Row.lines {own : List Rd} {row : List Putt} (ho : Own own) (h : Row own row) (hne : row ≠ []) : Txt.split (rowText row) nl = row.map putL := split_nl (by simpa using hne) fun p hp => by
  obtain ⟨r, hr, rfl⟩ := List.mem_map.mp hp
  exact put_free ho (h.ok r hr).1 (h.ok r hr).2
theorem putL_ne (p : Putt) : (putL p).length ≠ 0 := by
  rw [TL.len_tl]
  unfold putL
  rw [TL.join_eq]
  have a : TL.tl (numS p.1) ≠ [] := by
    rw [tl_numS]
    exact TL.numL_ne _
  cases h : p.2 with
  | nil =>
    show (TL.tl (numS p.1)).length ≠ 0
    exact fun e => a (List.eq_nil_of_length_eq_zero e)
  | cons x r =>
    show (TL.tl (numS p.1 ++ sp ++ Str.join sp (x :: r))).length ≠ 0
    rw [TL.tl_append, TL.tl_append, List.length_append, List.length_append]
    have : 0 < (TL.tl (numS p.1)).length := List.length_pos_iff.mpr a
    omega
/-- a row's text is empty just if the row is -/
theorem rowText_ne {row : List Putt} (h : row ≠ []) : rowText row ≠ "" := by
  intro e
  have e2 : (rowText row).length = 0 := by rw [e]; decide +kernel
  unfold rowText at e2
  rw [TL.join_eq, TL.len_tl] at e2
  cases row with
  | nil => exact h rfl
  | cons p r =>
    have a := putL_ne p
    rw [TL.len_tl] at a
    cases r with
    | nil => exact a e2
    | cons q r =>
      have : TL.tl (Str.join nl ((p :: q :: r).map putL)) = TL.tl (putL p) ++ TL.tl nl ++ TL.tl (Str.join nl ((q :: r).map putL)) := by
        show TL.tl (putL p ++ nl ++ Str.join nl ((q :: r).map putL)) = _
        rw [TL.tl_append, TL.tl_append]
      rw [this, List.length_append, List.length_append] at e2
      omega
/-- one more putting, another text -/
theorem more_ne {own : List Rd} {row : List Putt} {p : Putt} (ho : Own own) (h : Row own (row ++ [p])) : rowText (row ++ [p]) ≠ rowText row := by
  by_cases hne : row = []
  · subst hne
    exact rowText_ne (by simp)
  · intro e
    have hf : ∀ q ∈ row ++ [p], 10 ∉ TL.tl (putL q) := fun q hq => put_free ho (h.ok q hq).1 (h.ok q hq).2
    have := join_inj (ps := (row ++ [p]).map putL) (qs := row.map putL) (fun q hq => by
      obtain ⟨z, hz, rfl⟩ := List.mem_map.mp hq
      exact hf z hz) (fun q hq => by
      obtain ⟨z, hz, rfl⟩ := List.mem_map.mp hq
      exact hf z (List.mem_append_left _ hz)) (by simp) (by simpa using hne) e
    have := congrArg List.length this
    simp at this
/-! ### an empty list of texts -/
theorem toPy_strs (s : Sto) (k : Nat) (l : List Str) : optAll ((l.map D.str).map (toPy s k)) = some (l.map PyData.str) := by
  induction l with
  | nil => rfl
  | cons a l ih =>
    have e : toPy s k (.str a) = some (.str a) := by cases k <;> rfl
    rw [List.map_cons, List.map_cons, e]
    simp only [optAll, ih]
    rfl
theorem nm_strOk {x : Str} (h : Nm x) : PyData.strOk x = true := by
  unfold PyData.strOk
  rw [← Array.all_toList, List.all_eq_true]
  intro c hc
  have := h.abc c hc
  exact decide_eq_true (by omega)
theorem shaped_strs {l : List Str} (h : ∀ x ∈ l, PyData.strOk x = true) : SeqAt.shaped (.list (l.map .str)) = true := by
  have a : PyData.canLayAll0 (l.map .str) = true := by
    induction l with
    | nil => rfl
    | cons y l ih =>
      rw [List.map_cons, PyData.canLayAll0, ih fun x hx => h x (List.mem_cons_of_mem _ hx)]
      simp only [PyData.canLay0, h y List.mem_cons_self, Bool.and_self]
  have b : PyData.depthAll (l.map .str) = 0 := by
    clear a h
    induction l with
    | nil => rfl
    | cons y l ih =>
      rw [List.map_cons, PyData.depthAll, ih]
      rfl
  unfold SeqAt.shaped
  rw [PyData.canLay0, a, PyData.depth, b]
  rfl
theorem eq_nil {S : Sto} {a c : Nat} {l : List Str} (h1 : S[a]? = some (.lst (l.map .str))) (h2 : S[c]? = some (.lst [])) (h : ∀ x ∈ l, PyData.strOk x = true) : cmpop .eq (.loc a) (.loc c) S = some (l.isEmpty) := by
  have e1 : toPy S 60 (.loc a) = some (.list (l.map .str)) := by
    rw [toPy, h1]
    simp only [toPy_strs]
    rfl
  have e2 : toPy S 60 (.loc c) = some (.list []) := by
    rw [toPy, h2]
    rfl
  have e3 : SeqAt.shaped (.list []) = true := shaped_strs (l := []) fun x hx => nomatch hx
  show eqR (.loc a) (.loc c) S = _
  unfold eqR
  simp only [scEq, e1, e2, shaped_strs h, e3, Bool.and_self, if_true]
  cases l <;> rfl
/-! ### a row, shown -/
def putP (p : Putt) : PyData := .tuple [.int (p.1 : Int), .tuple (p.2.map .str)]
theorem toPy_put (s : Sto) (k : Nat) (p : Putt) : toPy s (k + 2) (putD p) = some (putP p) := by
  unfold putD putP
  simp only [toPy, List.map_cons, List.map_nil, toPy_strs, optAll, Option.map_some]
theorem toPy_row (s : Sto) (row : List Putt) : toPy s 60 (.tup (row.map putD)) = some (.tuple (row.map putP)) := by
  rw [toPy]
  have : optAll ((row.map putD).map (toPy s 59)) = some (row.map putP) := by
    induction row with
    | nil => rfl
    | cons p row ih =>
      rw [List.map_cons, List.map_cons, toPy_put s 57 p]
      simp only [optAll, ih]
      rfl
  simp only [this]
  rfl
theorem shownAll_map {α : Type} (l : List α) (f : α → PyData) : PyData.shownAll (l.map f) = l.map fun a => (f a).shown := by
  induction l with
  | nil => rfl
  | cons a l ih => rw [List.map_cons, PyData.shownAll, ih]; rfl
theorem showAll_map {α : Type} (l : List α) (f : α → PyData) (h : ∀ a ∈ l, (f a).showable = true) : PyData.showableAll (l.map f) = true := by
  induction l with
  | nil => rfl
  | cons a l ih => rw [List.map_cons, PyData.showableAll, ih fun x hx => h x (List.mem_cons_of_mem _ hx), h a List.mem_cons_self]; rfl
theorem tupleText_le {ts : List Str} {n B : Nat} (h : ∀ t ∈ ts, t.length ≤ B) (hn : ts.length ≤ n) : (tupleText ts).length ≤ n * B + 2 * n + 3 := by
  unfold tupleText
  rw [len_app, len_app]
  have j := StrLaws.join_length_le (", " : Str) ts
  have s : (ts.map (·.length)).sum ≤ n * B := sum_le (fun k hk => by
    obtain ⟨y, hy, rfl⟩ := List.mem_map.mp hk
    exact h y hy) (by simpa using hn)
  rw [show (", " : Str).length = 2 by decide +kernel] at j
  have a : ("(" : Str).length = 1 := by decide +kernel
  have b : Str.length (Str.ofString (if (ts.length == 1) = true then ",)" else ")")) ≤ 2 := by
    split <;> decide +kernel
  rw [a]
  omega
theorem put_shown {own : List Rd} {p : Putt} (ho : Own own) (h1 : p.1 ≤ 100000) (h : Way own p.2) : (putP p).showable = true ∧ (putP p).shown.length ≤ 2100 := by
  constructor
  · unfold putP
    have a : PyData.showableAll (p.2.map .str) = true := showAll_map _ _ fun x _ => by simp [PyData.showable]
    have lg := (lg62 (i := (p.1 : Int)) (by omega)).log (by decide)
    simp only [PyData.showable, PyData.showableAll, a, Bool.and_true]
    exact decide_eq_true (by omega)
  · unfold putP
    simp only [PyData.shown, PyData.shownAll]
    have a := tupleText_le (ts := PyData.shownAll (p.2.map .str)) (n := 12) (B := 82) (fun t ht => by
      rw [shownAll_map] at ht
      obtain ⟨x, hx, rfl⟩ := List.mem_map.mp ht
      have nx := h.nm ho hx
      have z := StrLaws.reprText_len x (fun c hc => by have := nx.abc c hc; omega)
      have := nx.few
      simp only [PyData.shown]
      omega) (by rw [shownAll_map, List.length_map]; exact h.few)
    have b : (Str.ofString (toString (p.1 : Int))).length ≤ 9 := (numS_len (by omega)).2
    have c := tupleText_le (ts := [Str.ofString (toString (p.1 : Int)), tupleText (PyData.shownAll (p.2.map .str))]) (n := 2) (B := 1011) (fun t ht => by
      simp only [List.mem_cons, List.not_mem_nil, or_false] at ht
      rcases ht with rfl | rfl <;> omega) (by simp)
    omega
theorem row_repr {own : List Rd} {row : List Putt} (ho : Own own) (h : Row own row) (hf : row.length ≤ 5000) (s : Sto) : ∃ x, b1 .repr (.tup (row.map putD)) s = some (.str x) := by
  have a : (PyData.tuple (row.map putP)).showable = true := by
    simp only [PyData.showable]
    exact showAll_map _ _ fun p hp => (put_shown ho (h.ok p hp).1 (h.ok p hp).2).1
  have b : (PyData.tuple (row.map putP)).shown.length ≤ sizeMax := by
    simp only [PyData.shown]
    have := tupleText_le (ts := PyData.shownAll (row.map putP)) (n := 5000) (B := 2100) (fun t ht => by
      rw [shownAll_map] at ht
      obtain ⟨p, hp, rfl⟩ := List.mem_map.mp ht
      exact (put_shown ho (h.ok p hp).1 (h.ok p hp).2).2) (by rw [shownAll_map, List.length_map]; exact hf)
    unfold sizeMax
    omega
  refine ⟨(PyData.tuple (row.map putP)).shown, ?_⟩
  unfold b1
  simp only [toPy_row]
  rw [if_pos]
  rw [a, Bool.true_and]
  exact decide_eq_true b
/-- beats and ways, side by side -/
theorem zip_rows {Pw : List Str → Prop} : ∀ (ns : List Nat) (bs : List D), bs.length = ns.length → (∀ (j : Nat) a b, ns[j]? = some a → bs[j]? = some b → ∃ w, b = putD (a, w) ∧ Pw w) → ∃ row : List Putt, bs = row.map putD ∧ row.map (·.1) = ns ∧ ∀ p ∈ row, Pw p.2
  | [], bs, hl, _ => ⟨[], List.eq_nil_of_length_eq_zero hl, rfl, fun p hp => nomatch hp⟩
  | a :: ns, [], hl, _ => by simp at hl
  | a :: ns, b :: bs, hl, h => by
    obtain ⟨w, rfl, hw⟩ := h 0 a b rfl rfl
    obtain ⟨row, e1, e2, e3⟩ := zip_rows ns bs (by simpa using hl) fun j x y hx hy => h (j + 1) x y (by simpa using hx) (by simpa using hy)
    refine ⟨(a, w) :: row, by rw [e1]; rfl, by rw [List.map_cons, e2], fun p hp => ?_⟩
    rcases List.mem_cons.mp hp with rfl | hp
    · exact hw
    · exact e3 p hp
/-- numbers, sorted -/
theorem sorted_nats (l : List Nat) {B : Nat} (h : ∀ a ∈ l, a < B) : ∃ ns : List Nat, ((l.map fun (a : Nat) => (a : Int)).mergeSort fun a b => decide (a ≤ b)) = ns.map (fun (a : Nat) => (a : Int)) ∧ ns.Pairwise (· ≤ ·) ∧ ns.length = l.length ∧ ∀ a ∈ ns, a < B := by
  have pw := List.pairwise_mergeSort (le := fun (a b : Int) => decide (a ≤ b)) (fun a b c h1 h2 => decide_eq_true (Int.le_trans (of_decide_eq_true h1) (of_decide_eq_true h2))) (fun a b => by
    rcases Int.le_total a b with q | q <;> simp [q]) (l.map fun (a : Nat) => (a : Int))
  obtain ⟨ns, e, hn⟩ := unmap (bs := (l.map fun (a : Nat) => (a : Int)).mergeSort fun a b => decide (a ≤ b)) (g := fun (a : Nat) => (a : Int)) (p := fun a => a < B) fun b hb => by
    obtain ⟨a, ha, rfl⟩ := List.mem_map.mp (List.mem_mergeSort.mp hb)
    exact ⟨a, rfl, h a ha⟩
  refine ⟨ns, e, ?_, ?_, hn⟩
  · rw [e, List.pairwise_map] at pw
    exact pw.imp fun h => by simpa using h
  · have := congrArg List.length e
    rw [List.length_mergeSort, List.length_map, List.length_map] at this
    exact this.symm
/-! ### what follows -/
def after (own : List Rd) (q : Rd) : List Str := (own.filter fun r => decide (q.to = r.fr)).map (·.nm)
theorem after_road {own : List Rd} (ho : Own own) {q : Rd} {x : Str} (h : x ∈ after own q) : ∃ r, road own x = some r ∧ q.to = r.fr ∧ x ∈ own.map (·.nm) := by
  obtain ⟨r, hr, rfl⟩ := List.mem_map.mp h
  obtain ⟨h1, h2⟩ := List.mem_filter.mp hr
  exact ⟨r, road_of ho h1, of_decide_eq_true h2, List.mem_map_of_mem h1⟩
theorem way_one {own : List Rd} {r : Rd} (hr : r ∈ own) : Way own [r.nm] := by
  refine ⟨by simp, by simp, by simp, fun x hx => ?_, fun p hp => ?_⟩
  · rw [List.mem_singleton.mp hx]
    exact List.mem_map_of_mem hr
  · simp at hp
theorem way_more {own : List Rd} (ho : Own own) {w : List Str} {a x : Str} {q : Rd} (h : Way own (w ++ [a])) (hq : road own a = some q) (hx : x ∈ after own q) (hn : x ∉ w ++ [a]) (hl : (w ++ [a]).length < 12) : Way own (w ++ [a] ++ [x]) := by
  obtain ⟨r, h1, h2, h3⟩ := after_road ho hx
  refine ⟨by simp, by simp at hl ⊢; omega, ?_, fun y hy => ?_, fun p hp => ?_⟩
  · rw [List.nodup_append]
    exact ⟨h.uniq, by simp, fun y hy z hz e => hn (by rw [← List.mem_singleton.mp hz, ← e]; exact hy)⟩
  · rcases List.mem_append.mp hy with hy | hy
    · exact h.of y hy
    · rw [List.mem_singleton.mp hy]
      exact h3
  · rw [zip_snoc] at hp
    rcases List.mem_append.mp hp with hp | hp
    · exact h.on p hp
    · rw [List.mem_singleton.mp hp]
      exact ⟨q, r, hq, h1, h2⟩
end Mi

/-! # A web is made: the store while it grows -/
namespace Mi
open PySem
theorem kGet_cons {κ : Type} [DecidableEq κ] (k k' : κ) (v : D) (r : List (κ × D)) : kGet ((k', v) :: r) k = if k' = k then some v else kGet r k := by
  unfold kGet
  rw [List.find?_cons]
  by_cases e : k' = k <;> simp [e]
theorem kGet_app {κ : Type} [DecidableEq κ] (k k' : κ) (v : D) (l : List (κ × D)) : kGet (l ++ [(k', v)]) k = (kGet l k).or (if k' = k then some v else none) := by
  induction l with
  | nil => simp [kGet_cons]; rfl
  | cons p l ih =>
    rw [List.cons_append, kGet_cons, kGet_cons, ih]
    split <;> rfl
theorem kGet_mem {κ : Type} [DecidableEq κ] {l : List (κ × D)} {k : κ} {v : D} (h : kGet l k = some v) : (k, v) ∈ l := by
  induction l with
  | nil => cases h
  | cons p l ih =>
    rw [kGet_cons] at h
    split at h
    · rename_i e
      cases h
      subst e
      exact List.mem_cons_self
    · exact List.mem_cons_of_mem _ (ih h)
theorem kGet_any {κ : Type} [DecidableEq κ] {l : List (κ × D)} {k : κ} (h : kGet l k = none) : (l.any fun kv => decide (kv.1 = k)) = false := by
  induction l with
  | nil => rfl
  | cons p l ih =>
    rw [kGet_cons] at h
    split at h
    · cases h
    · rename_i e
      simp [e, ih h]
/-- all its values are lists of texts, of n at most -/
def Lists (lo n : Nat) (S : Sto) (kvs : List (Ky × D)) : Prop := ∀ kv ∈ kvs, ∃ j xs, kv.2 = .loc j ∧ lo ≤ j ∧ S[j]? = some (.lst xs) ∧ (∀ x ∈ xs, ∃ y, x = D.str y) ∧ xs.length ≤ n
structure WI (s : Sto) (I : Cell) (n m : Nat) (S : Sto) : Prop where
  len : s.length + 3 ≤ S.length
  old : ∀ i, i < s.length → S[i]? = s[i]?
  ins : S[s.length]? = some I
  dk : ∀ a, a = 1 ∨ a = 2 → ∃ kvs, S[s.length + a]? = some (.dk kvs) ∧ Lists (s.length + 3) n S kvs ∧ kvs.length ≤ m
def HasA (s : Sto) (a : Nat) (S : Sto) (x : Str) : Prop := ∃ kvs, S[s.length + a]? = some (.dk kvs) ∧ (kGet kvs (.inr x)).isSome = true
/-- what a change leaves -/
structure Grows (s S S' : Sto) : Prop where
  has : ∀ b y, b = 1 ∨ b = 2 → HasA s b S y → HasA s b S' y
theorem WI.setd {s S : Sto} {I : Cell} {n m a : Nat} (W : WI s I n m S) (ha : a = 1 ∨ a = 2) (hm : m < 1000) (x : Str) :
    ∃ r S', setd (.loc (s.length + a)) (.str x) (.loc S.length) (S ++ [Cell.lst []]) = some (r, S') ∧ WI s I n (m + 1) S' ∧ HasA s a S' x ∧ Grows s S S' := by
  obtain ⟨kvs, h1, h2, h3⟩ := W.dk a ha
  have wl := W.len
  have e1 : (S ++ [Cell.lst []])[s.length + a]? = some (.dk kvs) := app_at h1
  have hl : kvs.length < sizeMax := by unfold sizeMax; omega
  -- a list more
  have W1 : WI s I n (m + 1) (S ++ [Cell.lst []]) := by
    refine ⟨by simp; omega, fun i hi => ?_, app_at W.ins, fun b hb => ?_⟩
    · rw [List.getElem?_append_left (by omega)]
      exact W.old i hi
    · obtain ⟨k, g1, g2, g3⟩ := W.dk b hb
      exact ⟨k, app_at g1, fun kv hkv => let ⟨j, xs, q1, q2, q3, q4, q5⟩ := g2 kv hkv; ⟨j, xs, q1, q2, app_at q3, q4, q5⟩, by omega⟩
  have H1 : ∀ b y, b = 1 ∨ b = 2 → HasA s b S y → HasA s b (S ++ [Cell.lst []]) y := fun b y _ ⟨k, g1, g2⟩ => ⟨k, app_at g1, g2⟩
  cases hk : kGet kvs (.inr x) with
  | some v => exact ⟨v, S ++ [.lst []], by simp [Mi.setd, keyOf, e1, hl, hk], W1, ⟨kvs, e1, by rw [hk]; rfl⟩, ⟨H1⟩⟩
  | none =>
    have kp : kPut kvs (.inr x) (.loc S.length) = kvs ++ [(.inr x, .loc S.length)] := by
      unfold kPut
      rw [kGet_any hk]
      rfl
    have ne : ∀ i, i ≠ s.length + a → ((S ++ [Cell.lst []]).set (s.length + a) (.dk (kPut kvs (.inr x) (.loc S.length))))[i]? = (S ++ [Cell.lst []])[i]? := fun i hi => List.getElem?_set_ne (Ne.symm hi)
    have at_ : ((S ++ [Cell.lst []]).set (s.length + a) (.dk (kPut kvs (.inr x) (.loc S.length))))[s.length + a]? = some (.dk (kPut kvs (.inr x) (.loc S.length))) := set_at e1
    refine ⟨.loc S.length, (S ++ [Cell.lst []]).set (s.length + a) (.dk (kPut kvs (.inr x) (.loc S.length))), by simp [Mi.setd, keyOf, e1, hl, hk], ⟨by simp; omega, fun i hi => ?_, ?_, fun b hb => ?_⟩, ⟨_, at_, ?_⟩, ⟨fun b y hb hy => ?_⟩⟩
    · rw [ne i (by omega)]
      exact W1.old i hi
    · rw [ne _ (by omega)]
      exact W1.ins
    · have keep : ∀ k, Lists (s.length + 3) n (S ++ [Cell.lst []]) k → Lists (s.length + 3) n ((S ++ [Cell.lst []]).set (s.length + a) (.dk (kPut kvs (.inr x) (.loc S.length)))) k := fun k g kv hkv => by
        obtain ⟨j, xs, q1, q2, q3, q4, q5⟩ := g kv hkv
        exact ⟨j, xs, q1, q2, by rw [ne j (by omega)]; exact q3, q4, q5⟩
      by_cases e : b = a
      · subst e
        refine ⟨_, at_, keep _ ?_, by rw [kp]; simp; omega⟩
        rw [kp]
        intro kv hkv
        rcases List.mem_append.mp hkv with hkv | hkv
        · obtain ⟨j, xs, q1, q2, q3, q4, q5⟩ := h2 kv hkv
          exact ⟨j, xs, q1, q2, app_at q3, q4, q5⟩
        · rw [List.mem_singleton.mp hkv]
          exact ⟨S.length, [], rfl, by omega, by simp, by simp, Nat.zero_le _⟩
      · obtain ⟨k, g1, g2, g3⟩ := W1.dk b hb
        exact ⟨k, by rw [ne _ (by omega)]; exact g1, keep _ g2, g3⟩
    · rw [kp, kGet_app]
      simp
    · obtain ⟨k, g1, g2⟩ := hy
      by_cases e : b = a
      · subst e
        rw [g1] at h1
        cases h1
        refine ⟨_, at_, ?_⟩
        rw [kp, kGet_app, Option.isSome_or, g2]
        rfl
      · exact ⟨k, by rw [ne _ (by omega)]; exact app_at g1, g2⟩
theorem WI.append {s S : Sto} {I : Cell} {n m a : Nat} (W : WI s I n m S) (ha : a = 1 ∨ a = 2) {x : Str} (hx : HasA s a S x) :
    ∃ j xs, idxR (.loc (s.length + a)) (.str x) S = some (.loc j) ∧ S[j]? = some (.lst xs) ∧ xs.length ≤ n ∧ ∀ y : Str, WI s I (n + 1) m (S.set j (.lst (xs ++ [.str y]))) ∧ Grows s S (S.set j (.lst (xs ++ [.str y]))) := by
  obtain ⟨kvs, g1, g2⟩ := hx
  obtain ⟨k', h1, h2, h3⟩ := W.dk a ha
  rw [g1] at h1
  cases h1
  obtain ⟨v, hv⟩ := Option.isSome_iff_exists.mp g2
  obtain ⟨j, xs, q1, q2, q3, q4, q5⟩ := h2 _ (kGet_mem hv)
  have q1' : v = .loc j := q1
  subst q1'
  refine ⟨j, xs, by rw [idx_dk g1, hv], q3, q5, fun y => ?_⟩
  have ne : ∀ i, i ≠ j → (S.set j (.lst (xs ++ [.str y])))[i]? = S[i]? := fun i hi => List.getElem?_set_ne (Ne.symm hi)
  have wl := W.len
  refine ⟨⟨by simp; exact wl, fun i hi => ?_, ?_, fun b hb => ?_⟩, ⟨fun b z hb hz => ?_⟩⟩
  · rw [ne i (by omega)]
    exact W.old i hi
  · rw [ne _ (by omega)]
    exact W.ins
  · obtain ⟨k, f1, f2, f3⟩ := W.dk b hb
    refine ⟨k, by rw [ne _ (by omega)]; exact f1, fun kv hkv => ?_, f3⟩
    obtain ⟨i, ys, p1, p2, p3, p4, p5⟩ := f2 kv hkv
    by_cases e : i = j
    · subst e
      rw [p3] at q3
      cases q3
      refine ⟨i, xs ++ [.str y], p1, p2, set_at p3, fun z hz => ?_, by simp; omega⟩
      rcases List.mem_append.mp hz with hz | hz
      · exact p4 z hz
      · exact ⟨y, List.mem_singleton.mp hz⟩
    · exact ⟨i, ys, p1, p2, by rw [ne i e]; exact p3, p4, by omega⟩
  · obtain ⟨k, f1, f2⟩ := hz
    exact ⟨k, by rw [ne _ (by omega)]; exact f1, f2⟩
/-! ### the web that comes of it -/
/-- a web's roads -/
def webFs (own : List Rd) (t : Str) (w : Nat) : List (Str × D) := [("own_ends", .fdk (own.map fun r => .inr r.nm) (own.map Rd.e)), ("own_text", .str t), ("own_out", .loc (w + 1)), ("own_in", .loc (w + 2))]
def webC (own : List Rd) (t : Str) (w : Nat) : Cell := .ins "Web" (webFs own t w)
theorem webFs_ends (own : List Rd) (t : Str) (w : Nat) : (webFs own t w).lookup ("own_ends" : Str) = some (D.fdk (own.map fun r => .inr r.nm) (own.map Rd.e)) := rfl
theorem webFs_out (own : List Rd) (t : Str) (w : Nat) : (webFs own t w).lookup ("own_out" : Str) = some (D.loc (w + 1)) := rfl
theorem webFs_in (own : List Rd) (t : Str) (w : Nat) : (webFs own t w).lookup ("own_in" : Str) = some (D.loc (w + 2)) := rfl
theorem WI.web {s S : Sto} {own : List Rd} {t : Str} {n m : Nat} (W : WI s (webC own t s.length) n m S) : insOf (.loc s.length) S = some (("Web" : Str), webFs own t s.length) := by
  simp [insOf, W.ins, webC]
def IsWeb (own : List Rd) (w : D) : Prop := ∃ t v1 v2, w = .fins "Web" ["own_ends", "own_text", "own_out", "own_in"] [.fdk (own.map fun r => .inr r.nm) (own.map Rd.e), .str t, v1, v2] ∧ ∀ n, w.und n = true
theorem und_ends (n : Nat) (own : List Rd) : (D.fdk (own.map fun r => .inr r.nm) (own.map Rd.e)).und n = true := by
  rw [und_fdk]
  exact undL_map fun r _ => by simp [Rd.e]
theorem frz_lists {s S : Sto} {lo n a k : Nat} {kvs : List (Ky × D)} (h : S[a]? = some (.dk kvs)) (hl : Lists lo n S kvs) (ha : s.length ≤ a) (hlo : s.length ≤ lo) : ∃ v, frz s.length S (k + 3) (.loc a) = v ∧ ∀ n, v.und n = true := by
  refine ⟨_, rfl, fun n => ?_⟩
  rw [frz_dk h ha, und_fdk]
  refine undL_map fun kv hkv => ?_
  obtain ⟨j, xs, q1, q2, q3, q4, q5⟩ := hl kv hkv
  rw [q1, frz_lst q3 (by omega), und_flst]
  refine undL_map fun x hx => ?_
  obtain ⟨y, rfl⟩ := q4 x hx
  rfl
theorem WI.done {s S : Sto} {own : List Rd} {t : Str} {n m : Nat} (W : WI s (webC own t s.length) n m S) : ∃ w, sweep s (.ok (.loc s.length) S) = .ok w s ∧ IsWeb own w := by
  obtain ⟨k1, a1, b1, _⟩ := W.dk 1 (.inl rfl)
  obtain ⟨k2, a2, b2, _⟩ := W.dk 2 (.inr rfl)
  obtain ⟨v1, e1, u1⟩ := frz_lists (s := s) (k := 5) a1 b1 (by omega) (by omega)
  obtain ⟨v2, e2, u2⟩ := frz_lists (s := s) (k := 5) a2 b2 (by omega) (by omega)
  have fz : freeze s.length (.loc s.length) S = .fins "Web" ["own_ends", "own_text", "own_out", "own_in"] [.fdk (own.map fun r => .inr r.nm) (own.map Rd.e), .str t, v1, v2] := by
    unfold freeze
    rw [frz_ins W.ins (Nat.le_refl _)]
    simp only [webFs, List.map_cons, List.map_nil]
    rw [frz_und 8 _ (und_ends _ own), frz_und 8 _ (und_str _ t), e1, e2]
  have uw : ∀ n, (D.fins "Web" ["own_ends", "own_text", "own_out", "own_in"] [.fdk (own.map fun r => .inr r.nm) (own.map Rd.e), .str t, v1, v2]).und n = true := fun n => by
    rw [und_fins]
    simp only [undL_cons, undL_nil, und_ends, und_str, u1, u2, Bool.and_self]
  have wl := W.len
  have tk : S.take s.length = s := by
    apply List.ext_getElem?
    intro i
    rw [List.getElem?_take]
    split
    · rename_i h
      exact W.old i h
    · rename_i h
      rw [List.getElem?_eq_none (by omega)]
  refine ⟨_, ?_, _, v1, v2, rfl, uw⟩
  · rw [sweep_ok (by rw [fz]; exact uw _) (by omega) (fun i hi => .inl (W.old i hi)), fz, tk]
/-- its fields -/
theorem IsWeb.ends {own : List Rd} {w : D} (h : IsWeb own w) (s : Sto) : ∃ fs : List (Str × D), insOf w s = some (("Web" : Str), fs) ∧ fs.lookup ("own_ends" : Str) = some (D.fdk (own.map fun r => .inr r.nm) (own.map Rd.e)) := by
  obtain ⟨t, v1, v2, rfl, _⟩ := h
  exact ⟨_, rfl, rfl⟩
end Mi

/-! # Stretches of beats, greatest sums: plain facts -/
namespace Mi
open PySem
@[simp] theorem listOf_tup (xs : List D) (s : Sto) : listOf (.val (.tup xs)) s = some xs := rfl
@[simp] theorem listOf_flst (xs : List D) (s : Sto) : listOf (.val (.flst xs)) s = some xs := rfl
@[simp] theorem listOf_new (xs : List D) (s : Sto) : listOf (.new xs) s = some xs := rfl
theorem listOf_loc {n : Nat} {xs : List D} {s : Sto} (h : s[n]? = some (.lst xs)) : listOf (.val (.loc n)) s = some xs := by simp [listOf, sq, h]
theorem listOf_dk {n : Nat} {kvs : List (Ky × D)} {s : Sto} (h : s[n]? = some (.dk kvs)) : listOf (.val (.loc n)) s = some (kvs.map fun q => keyD q.1) := by simp [listOf, sq, dicOf, h]
@[simp] theorem spr_tup (xs : List D) (s : Sto) : spr (.val (.tup xs)) s = .ok xs s := rfl
@[simp] theorem spr_flst (xs : List D) (s : Sto) : spr (.val (.flst xs)) s = .ok xs s := rfl
@[simp] theorem spr_new (xs : List D) (s : Sto) : spr (.new xs) s = .ok xs s := rfl
theorem spr_loc {n : Nat} {xs : List D} {s : Sto} (h : s[n]? = some (.lst xs)) : spr (.val (.loc n)) s = .ok xs s := by simp [spr, sq, h]
/-! ### one road: the beats of its letters -/
/-- how many of some beats lie from a to b -/
def manyN (L : List Nat) (a b : Nat) : Nat := L.countP fun t => decide (a ≤ t) && decide (t ≤ b)
theorem manyN_step (L : List Nat) {a b : Nat} (h : a ≤ b + 1) : manyN L a (b + 1) = manyN L a b + L.count (b + 1) := by
  induction L with
  | nil => rfl
  | cons t L ih =>
    unfold manyN at *
    rw [List.countP_cons, List.countP_cons, List.count_cons, ih]
    by_cases e : t = b + 1
    · subst e
      have : ¬ (b + 1 ≤ b) := by omega
      simp [h, this]
      omega
    · have e2 : (t == b + 1) = false := by simpa using e
      have : (decide (t ≤ b + 1)) = decide (t ≤ b) := by
        by_cases c : t ≤ b
        · simp [c, show t ≤ b + 1 by omega]
        · simp [c, show ¬ t ≤ b + 1 by omega]
      rw [e2, this]
      simp
      omega
theorem manyN_above (L : List Nat) {a b : Nat} (h : b < a) : manyN L a b = 0 := by
  unfold manyN
  rw [List.countP_eq_zero]
  intro t _
  simp
  omega
theorem manyN_one (L : List Nat) (b : Nat) : manyN L b b = L.count b := by
  cases b with
  | zero =>
    induction L with
    | nil => rfl
    | cons t L ih =>
      unfold manyN at *
      rw [List.countP_cons, List.count_cons, ih]
      simp
  | succ b => rw [manyN_step L (Nat.le_refl _), manyN_above L (by omega)]; omega
/-- the greatest sum that ends ahead of a beat, nought at least -/
def sumN (p q : Int) (L : List Nat) : Nat → Int
  | 0 => 0
  | t + 1 => max 0 (sumN p q L t + q * (L.count t : Int) - p)
theorem sumN_nn {p q : Int} {L : List Nat} : ∀ t, 0 ≤ sumN p q L t
  | 0 => Int.le_refl _
  | t + 1 => Int.le_max_left _ _
/-- .. that ends with a beat -/
def topN (p q : Int) (L : List Nat) (t : Nat) : Int := sumN p q L t + q * (L.count t : Int) - p
theorem sumN_succ {p q : Int} {L : List Nat} (t : Nat) : sumN p q L (t + 1) = max 0 (topN p q L t) := rfl
/-- a stretch's own sum -/
def strN (p q : Int) (L : List Nat) (a b : Nat) : Int := q * (manyN L a b : Int) - p * ((b : Int) + 1 - (a : Int))
theorem strN_step {p q : Int} {L : List Nat} {a b : Nat} (h : a ≤ b + 1) : strN p q L a (b + 1) = strN p q L a b + q * (L.count (b + 1) : Int) - p := by
  unfold strN
  rw [manyN_step L h, Int.natCast_add, Int.mul_add]
  have e1 : p * (((b + 1 : Nat) : Int) + 1 - (a : Int)) = p * ((b : Int) + 1 - (a : Int)) + p := by
    rw [show (((b + 1 : Nat) : Int) + 1 - (a : Int)) = ((b : Int) + 1 - (a : Int)) + 1 by omega, Int.mul_add, Int.mul_one]
  rw [e1]
  omega
theorem topN_up {p q : Int} {L : List Nat} : ∀ {b a : Nat}, a ≤ b → strN p q L a b ≤ topN p q L b
  | 0, a, h => by
    have : a = 0 := by omega
    subst this
    unfold strN topN sumN
    rw [manyN_one]
    simp
  | b + 1, a, h => by
    by_cases e : a = b + 1
    · subst e
      have := sumN_nn (p := p) (q := q) (L := L) (b + 1)
      unfold strN topN
      rw [manyN_one]
      have e1 : p * (((b + 1 : Nat) : Int) + 1 - ((b + 1 : Nat) : Int)) = p := by rw [show (((b + 1 : Nat) : Int) + 1 - ((b + 1 : Nat) : Int)) = 1 by omega, Int.mul_one]
      rw [e1]
      omega
    · have ih := topN_up (p := p) (q := q) (L := L) (b := b) (a := a) (by omega)
      rw [strN_step (by omega)]
      unfold topN
      rw [sumN_succ]
      have := Int.le_max_right 0 (topN p q L b)
      omega
theorem topN_at {p q : Int} {L : List Nat} : ∀ (b : Nat), ∃ a, a ≤ b ∧ topN p q L b = strN p q L a b
  | 0 => ⟨0, Nat.le_refl _, by unfold strN topN sumN; rw [manyN_one]; simp⟩
  | b + 1 => by
    by_cases c : topN p q L b ≤ 0
    · refine ⟨b + 1, Nat.le_refl _, ?_⟩
      unfold strN topN
      rw [sumN_succ, manyN_one, Int.max_eq_left c]
      have e1 : p * (((b + 1 : Nat) : Int) + 1 - ((b + 1 : Nat) : Int)) = p := by rw [show (((b + 1 : Nat) : Int) + 1 - ((b + 1 : Nat) : Int)) = 1 by omega, Int.mul_one]
      rw [e1]
      omega
    · obtain ⟨a, h, e⟩ := topN_at (p := p) (q := q) (L := L) b
      refine ⟨a, by omega, ?_⟩
      rw [strN_step (by omega), ← e]
      unfold topN
      rw [sumN_succ, Int.max_eq_right (by omega)]
      unfold topN
      omega
/-- no letters for some beats -/
theorem sumN_rest {p q : Int} {L : List Nat} (hp : 0 ≤ p) (a : Nat) : ∀ (n : Nat), (∀ t, a ≤ t → t < a + n → t ∉ L) → sumN p q L (a + n) = max 0 (sumN p q L a - p * (n : Int))
  | 0, _ => by
    have := sumN_nn (p := p) (q := q) (L := L) a
    simp
    omega
  | n + 1, h => by
    have ih := sumN_rest (q := q) (L := L) hp a n fun t h1 h2 => h t h1 (by omega)
    have c0 : L.count (a + n) = 0 := List.count_eq_zero.mpr (h (a + n) (by omega) (by omega))
    rw [show a + (n + 1) = (a + n) + 1 by omega, sumN_succ]
    unfold topN
    rw [ih, c0]
    have e1 : p * ((n + 1 : Nat) : Int) = p * (n : Int) + p := by rw [Int.natCast_add, Int.mul_add]; simp
    rw [e1]
    simp
    omega
/-- too many letters: the sum is above the burst's -/
theorem over_iff {p q burst : Int} {L : List Nat} {a b : Nat} (hq : 0 < q) (h : a ≤ b) : ((b : Int) + 1 - (a : Int)) * p / q + burst < (manyN L a b : Int) ↔ burst * q < strN p q L a b := by
  unfold strN
  have e1 : ((b : Int) + 1 - (a : Int)) * p / q + burst < (manyN L a b : Int) ↔ ((b : Int) + 1 - (a : Int)) * p / q < (manyN L a b : Int) - burst := by omega
  rw [e1, Int.ediv_lt_iff_lt_mul hq, Int.mul_comm ((b : Int) + 1 - (a : Int)) p, Int.sub_mul, Int.mul_comm (manyN L a b : Int) q]
  omega
/-- rounded up -/
theorem ceil_ge {m q : Int} (hq : 0 < q) (v : Int) : -(-m / q) ≤ v ↔ m ≤ v * q := by
  have : -(-m / q) ≤ v ↔ -v ≤ -m / q := by omega
  rw [this, Int.le_ediv_iff_mul_le hq, Int.neg_mul]
  omega
/-! ### rows -/
abbrev PutN := Nat × List Str
/-- the beats of the letters that have a road on their way -/
def bts (row : List PutN) (x : Str) : List Nat := (row.filter fun r => decide (x ∈ r.2)).map (·.1)
theorem mem_bts {row : List PutN} {x : Str} {b : Nat} : b ∈ bts row x ↔ ∃ w, (b, w) ∈ row ∧ x ∈ w := by
  unfold bts
  rw [List.mem_map]
  constructor
  · rintro ⟨⟨t, w⟩, h, rfl⟩
    obtain ⟨h1, h2⟩ := List.mem_filter.mp h
    exact ⟨w, h1, of_decide_eq_true h2⟩
  · rintro ⟨w, h1, h2⟩
    exact ⟨(b, w), List.mem_filter.mpr ⟨h1, decide_eq_true h2⟩, rfl⟩
/-! ### counts of one beat -/
abbrev Cnt := List (Str × Nat)
def cAdd : Cnt → Str → Cnt
  | [], x => [(x, 1)]
  | (y, c) :: r, x => if y = x then (y, c + 1) :: r else (y, c) :: cAdd r x
def cGet (l : Cnt) (x : Str) : Nat := (l.lookup x).getD 0
theorem cAdd_keys : ∀ (l : Cnt) (x : Str), (cAdd l x).map (·.1) = if x ∈ l.map (·.1) then l.map (·.1) else l.map (·.1) ++ [x]
  | [], x => by simp [cAdd]
  | (y, c) :: r, x => by
    unfold cAdd
    by_cases e : y = x
    · subst e; simp
    · have e' : ¬ x = y := fun z => e z.symm
      rw [if_neg e, List.map_cons, cAdd_keys r x, List.map_cons]
      have iff : (x ∈ y :: r.map (·.1)) ↔ x ∈ r.map (·.1) := by simp [e']
      by_cases m : x ∈ r.map (·.1)
      · rw [if_pos m, if_pos (iff.mpr m)]
      · rw [if_neg m, if_neg fun z => m (iff.mp z)]; rfl
theorem cAdd_nodup {l : Cnt} {x : Str} (h : (l.map (·.1)).Nodup) : ((cAdd l x).map (·.1)).Nodup := by
  rw [cAdd_keys]
  split
  · exact h
  · rename_i m
    rw [List.nodup_append]
    exact ⟨h, by simp, fun a ha b hb e => m (by simp at hb; subst hb; subst e; exact ha)⟩
theorem cAdd_len (l : Cnt) (x : Str) : (cAdd l x).length ≤ l.length + 1 := by
  induction l with
  | nil => simp [cAdd]
  | cons a r ih =>
    obtain ⟨y, c⟩ := a
    unfold cAdd
    split <;> simp <;> omega
theorem cAdd_get : ∀ (l : Cnt) (x y : Str), cGet (cAdd l x) y = cGet l y + if x = y then 1 else 0
  | [], x, y => by
    by_cases e : x = y
    · subst e; simp [cAdd, cGet]
    · have : (y == x) = false := by simpa using fun z => e z.symm
      simp [cAdd, cGet, List.lookup_cons, this, e]
  | (z, c) :: r, x, y => by
    have ih := cAdd_get r x y
    unfold cAdd
    by_cases e : z = x
    · subst e
      rw [if_pos rfl]
      by_cases e2 : y = z
      · subst e2; simp [cGet]
      · have e3 : (y == z) = false := by simpa using e2
        have e4 : ¬ z = y := fun q => e2 q.symm
        simp [cGet, List.lookup_cons, e3, e4]
    · rw [if_neg e]
      by_cases e2 : y = z
      · subst e2
        have e4 : ¬ x = y := fun q => e q.symm
        simp [cGet, e4]
      · have e3 : (y == z) = false := by simpa using e2
        unfold cGet at ih ⊢
        rw [List.lookup_cons, List.lookup_cons, e3]
        exact ih
theorem cAdd_pos {l : Cnt} {x : Str} (h : ∀ p ∈ l, 0 < p.2) : ∀ p ∈ cAdd l x, 0 < p.2 := by
  induction l with
  | nil => intro p hp; simp [cAdd] at hp; subst hp; exact Nat.one_pos
  | cons a r ih =>
    obtain ⟨y, c⟩ := a
    unfold cAdd
    intro p hp
    split at hp
    · rcases List.mem_cons.mp hp with rfl | hp
      · exact Nat.succ_pos _
      · exact h p (List.mem_cons_of_mem _ hp)
    · rcases List.mem_cons.mp hp with rfl | hp
      · exact h (y, c) List.mem_cons_self
      · exact ih (fun q hq => h q (List.mem_cons_of_mem _ hq)) p hp
/-- the roads of a way, one letter more each -/
def cWay (l : Cnt) (w : List Str) : Cnt := w.foldl cAdd l
theorem cWay_nodup {w : List Str} : ∀ {l : Cnt}, (l.map (·.1)).Nodup → ((cWay l w).map (·.1)).Nodup := by
  induction w with
  | nil => exact fun h => h
  | cons x w ih => exact fun h => ih (cAdd_nodup h)
theorem cWay_pos {w : List Str} : ∀ {l : Cnt}, (∀ p ∈ l, 0 < p.2) → ∀ p ∈ cWay l w, 0 < p.2 := by
  induction w with
  | nil => exact fun h => h
  | cons x w ih => exact fun h => ih (cAdd_pos h)
theorem cWay_len {w : List Str} : ∀ {l : Cnt}, (cWay l w).length ≤ l.length + w.length := by
  induction w with
  | nil => intro l; exact Nat.le_refl _
  | cons x w ih =>
    intro l
    have := ih (l := cAdd l x)
    have := cAdd_len l x
    simp only [cWay, List.foldl_cons, List.length_cons] at *
    omega
theorem cWay_get {w : List Str} : ∀ {l : Cnt} (y : Str), cGet (cWay l w) y = cGet l y + w.count y := by
  induction w with
  | nil => intro l y; rfl
  | cons x w ih =>
    intro l y
    show cGet (cWay (cAdd l x) w) y = _
    rw [ih, cAdd_get, List.count_cons]
    by_cases e : x = y
    · subst e; simp; omega
    · have : (x == y) = false := by simpa using e
      simp [e, this]
/-! ### the beats at which letters are put in -/
abbrev Grp := List (Nat × Cnt)
def gAdd : Grp → PutN → Grp
  | [], r => [(r.1, cWay [] r.2)]
  | (b, c) :: g, r => if b = r.1 then (b, cWay c r.2) :: g else (b, c) :: gAdd g r
def gOf (row : List PutN) : Grp := row.foldl gAdd []
theorem gAdd_beats : ∀ (g : Grp) (r : PutN), (gAdd g r).map (·.1) = if r.1 ∈ g.map (·.1) then g.map (·.1) else g.map (·.1) ++ [r.1]
  | [], r => by simp [gAdd]
  | (b, c) :: g, r => by
    unfold gAdd
    by_cases e : b = r.1
    · subst e; simp
    · have e' : ¬ r.1 = b := fun z => e z.symm
      rw [if_neg e, List.map_cons, gAdd_beats g r, List.map_cons]
      have iff : (r.1 ∈ b :: g.map (·.1)) ↔ r.1 ∈ g.map (·.1) := by simp [e']
      by_cases m : r.1 ∈ g.map (·.1)
      · rw [if_pos m, if_pos (iff.mpr m)]
      · rw [if_neg m, if_neg fun z => m (iff.mp z)]; rfl
/-- the count of one beat -/
def gGet (g : Grp) (b : Nat) : Cnt := (g.lookup b).getD []
theorem gAdd_get : ∀ (g : Grp) (r : PutN) (b : Nat), gGet (gAdd g r) b = if b = r.1 then cWay (gGet g b) r.2 else gGet g b
  | [], r, b => by
    by_cases e : b = r.1
    · subst e; simp [gAdd, gGet]
    · have : (b == r.1) = false := by simpa using e
      simp [gAdd, gGet, List.lookup_cons, this, e]
  | (t, c) :: g, r, b => by
    have ih := gAdd_get g r b
    unfold gAdd
    by_cases e : t = r.1
    · rw [if_pos e]
      by_cases e2 : b = t
      · subst e2; simp [gGet, e]
      · have e3 : (b == t) = false := by simpa using e2
        have e4 : ¬ b = r.1 := fun q => e2 (q.trans e.symm)
        rw [if_neg e4]
        simp [gGet, List.lookup_cons, e3]
    · rw [if_neg e]
      by_cases e2 : b = t
      · subst e2
        rw [if_neg e]
        simp [gGet]
      · have e3 : (b == t) = false := by simpa using e2
        unfold gGet at ih ⊢
        rw [List.lookup_cons, List.lookup_cons, e3]
        exact ih
structure GrpOk (g : Grp) : Prop where
  nd : ∀ p ∈ g, (p.2.map (·.1)).Nodup
  pos : ∀ p ∈ g, ∀ q ∈ p.2, 0 < q.2
theorem gAdd_ok {g : Grp} {r : PutN} (h : GrpOk g) : GrpOk (gAdd g r) := by
  induction g with
  | nil => exact ⟨fun p hp => by simp [gAdd] at hp; subst hp; exact cWay_nodup (by simp), fun p hp => by simp [gAdd] at hp; subst hp; exact cWay_pos (by simp)⟩
  | cons a g ih =>
    obtain ⟨b, c⟩ := a
    have ih := ih ⟨fun p hp => h.nd p (List.mem_cons_of_mem _ hp), fun p hp => h.pos p (List.mem_cons_of_mem _ hp)⟩
    unfold gAdd
    split
    · refine ⟨fun p hp => ?_, fun p hp => ?_⟩ <;> rcases List.mem_cons.mp hp with rfl | hp
      · exact cWay_nodup (h.nd _ List.mem_cons_self)
      · exact h.nd p (List.mem_cons_of_mem _ hp)
      · exact cWay_pos (h.pos _ List.mem_cons_self)
      · exact h.pos p (List.mem_cons_of_mem _ hp)
    · refine ⟨fun p hp => ?_, fun p hp => ?_⟩ <;> rcases List.mem_cons.mp hp with rfl | hp
      · exact h.nd _ List.mem_cons_self
      · exact ih.nd p hp
      · exact h.pos _ List.mem_cons_self
      · exact ih.pos p hp
theorem foldl_inv {α β : Type} {f : β → α → β} (P : List α → β → Prop) : ∀ (l : List α) (done : List α) (b : β), P done b → (∀ d b a, P d b → P (d ++ [a]) (f b a)) → P (done ++ l) (l.foldl f b)
  | [], done, b, h, _ => by simpa using h
  | a :: l, done, b, h, q => by
    have := foldl_inv P l (done ++ [a]) (f b a) (q done b a h) q
    simpa using this
/-- what the groups tell of a row whose beats ascend -/
structure GrpOf (row : List PutN) (g : Grp) : Prop where
  ok : GrpOk g
  get : ∀ b x, cGet (gGet g b) x = (bts row x).count b + 0
  up : (g.map (·.1)).Pairwise (· < ·)
  mem : ∀ b, b ∈ g.map (·.1) ↔ b ∈ row.map (·.1)
theorem bts_snoc (row : List PutN) (r : PutN) (x : Str) : bts (row ++ [r]) x = bts row x ++ if x ∈ r.2 then [r.1] else [] := by
  unfold bts
  rw [List.filter_append, List.map_append]
  by_cases e : x ∈ r.2 <;> simp [e]
theorem gOf_is {row : List PutN} (up : (row.map (·.1)).Pairwise (· ≤ ·)) (nd : ∀ r ∈ row, r.2.Nodup) : GrpOf row (gOf row) := by
  have key : ((([] : List PutN) ++ row).map (·.1)).Pairwise (· ≤ ·) → (∀ r ∈ (([] : List PutN) ++ row), r.2.Nodup) → GrpOf (([] : List PutN) ++ row) (row.foldl gAdd []) := by
    refine foldl_inv (α := PutN) (β := Grp) (P := fun d g => ((d.map (·.1)).Pairwise (· ≤ ·)) → (∀ r ∈ d, r.2.Nodup) → GrpOf d g) row [] [] (fun _ _ => ⟨⟨(fun p hp => nomatch hp), (fun p hp => nomatch hp)⟩, fun b x => rfl, List.Pairwise.nil, fun b => Iff.rfl⟩) ?_
    intro d g r ih up nd
    rw [List.map_append, List.pairwise_append] at up
    obtain ⟨u1, _, u2⟩ := up
    have ih := ih u1 fun q hq => nd q (List.mem_append_left _ hq)
    have ndr : r.2.Nodup := nd r (List.mem_append_right _ List.mem_cons_self)
    refine ⟨gAdd_ok ih.ok, fun b x => ?_, ?_, fun b => ?_⟩
    · rw [gAdd_get, bts_snoc, List.count_append, Nat.add_zero]
      have e0 := ih.get b x
      rw [Nat.add_zero] at e0
      by_cases e : b = r.1
      · subst e
        rw [if_pos rfl, cWay_get, e0]
        by_cases m : x ∈ r.2
        · rw [if_pos m, ndr.count, if_pos m]; simp
        · rw [if_neg m, List.count_eq_zero.mpr m]; rfl
      · rw [if_neg e, e0]
        by_cases m : x ∈ r.2
        · rw [if_pos m]
          have : ¬ r.1 = b := fun z => e z.symm
          simp [this]
        · rw [if_neg m]; rfl
    · rw [gAdd_beats]
      split
      · exact ih.up
      · rename_i m
        rw [List.pairwise_append]
        refine ⟨ih.up, by simp, fun a ha b hb => ?_⟩
        have hb : b = r.1 := by simpa using hb
        subst hb
        have := u2 a ((ih.mem a).mp ha) r.1 (by simp)
        have : a ≠ r.1 := fun e => m (e ▸ ha)
        omega
    · rw [gAdd_beats, List.map_append, List.mem_append]
      have := ih.mem b
      split
      · rename_i m
        constructor
        · exact fun h => .inl (this.mp h)
        · rintro (h | h)
          · exact this.mpr h
          · have : b = r.1 := by simpa using h
            rw [this]; exact m
      · rw [List.mem_append, this]
        simp
  exact key up nd
/-- a group stands as it is told -/
theorem GrpOf.at_ {row : List PutN} {g : Grp} (h : GrpOf row g) {b : Nat} {c : Cnt} (m : (b, c) ∈ g) : gGet g b = c := by
  have up := h.up
  clear h
  induction g with
  | nil => cases m
  | cons a g ih =>
    obtain ⟨t, d⟩ := a
    rw [List.map_cons, List.pairwise_cons] at up
    rcases List.mem_cons.mp m with e | m
    · cases e; simp [gGet]
    · have lt := up.1 b (List.mem_map_of_mem (f := (·.1)) m)
      have ne : (b == t) = false := by simp; simp only at lt; omega
      have := ih m up.2
      unfold gGet at this ⊢
      rw [List.lookup_cons, ne]
      exact this
theorem GrpOf.cnt {row : List PutN} {g : Grp} (h : GrpOf row g) {b : Nat} {c : Cnt} (m : (b, c) ∈ g) (x : Str) : cGet c x = (bts row x).count b := by
  rw [← h.at_ m, h.get]; rfl
/-! ### the sums, beat by beat -/
abbrev Told := List (Str × Int)
def sumsG (p q : Int) : (Str → Int) → Int → Grp → List (Nat × Told)
  | _, _, [] => []
  | f, before, (b, c) :: g =>
    (b, c.map fun z => (z.1, max 0 (f z.1 - p * ((b : Int) - before)) + q * (z.2 : Int) - p)) ::
      sumsG p q (fun x => max 0 (match c.lookup x with
        | some n => max 0 (f x - p * ((b : Int) - before)) + q * (n : Int) - p
        | none => max 0 (f x - p * ((b : Int) - before)) - p)) ((b : Int) + 1) g
def toldOf (row : List PutN) (p q : Int) (z : Nat × Cnt) : Nat × Told := (z.1, z.2.map fun y => (y.1, topN p q (bts row y.1) z.1))
theorem lookup_of {c : Cnt} (nd : (c.map (·.1)).Nodup) {x : Str} {n : Nat} (h : (x, n) ∈ c) : c.lookup x = some n := by
  induction c with
  | nil => cases h
  | cons a c ih =>
    obtain ⟨y, m⟩ := a
    rw [List.map_cons, List.nodup_cons] at nd
    rcases List.mem_cons.mp h with e | h2
    · cases e; simp
    · have ne : (x == y) = false := by
        simp only [beq_eq_false_iff_ne]
        intro e
        have := List.mem_map_of_mem (f := (·.1)) h2
        simp only [e] at this
        exact nd.1 this
      rw [List.lookup_cons, ne]
      exact ih nd.2 h2
theorem sums_is {row : List PutN} {p q : Int} (hp : 0 ≤ p) : ∀ (g : Grp) (before : Nat) (f : Str → Int), (∀ x, f x = sumN p q (bts row x) before) → (∀ z ∈ g, (z.2.map (·.1)).Nodup ∧ ∀ x, cGet z.2 x = (bts row x).count z.1) → (g.map (·.1)).Pairwise (· < ·) →
    (∀ z ∈ g, before ≤ z.1) → (∀ x t, before ≤ t → t ∈ bts row x → t ∈ g.map (·.1)) → sumsG p q f (before : Int) g = g.map (toldOf row p q)
  | [], _, _, _, _, _, _, _ => rfl
  | (b, c) :: g, before, f, hf, h, up, lo, al => by
    rw [List.map_cons, List.pairwise_cons] at up
    have hb : before ≤ b := lo (b, c) List.mem_cons_self
    obtain ⟨nd, cn⟩ := h (b, c) List.mem_cons_self
    simp only at nd cn
    have lf : ∀ x, max 0 (f x - p * ((b : Int) - (before : Int))) = sumN p q (bts row x) b := fun x => by
      have := sumN_rest (q := q) (L := bts row x) hp before (b - before) fun t h1 h2 m => by
        have := al x t h1 m
        rw [List.map_cons, List.mem_cons] at this
        rcases this with e | e
        · omega
        · have := up.1 t e
          omega
      rw [show before + (b - before) = b by omega] at this
      rw [this, hf x, show ((b - before : Nat) : Int) = (b : Int) - (before : Int) by omega]
    rw [sumsG, List.map_cons]
    congr 1
    · unfold toldOf
      simp only [Prod.mk.injEq, true_and]
      refine List.map_congr_left fun z hz => ?_
      have e := lookup_of nd (x := z.1) (n := z.2) hz
      have e2 := cn z.1
      unfold cGet at e2
      rw [e] at e2
      simp only [Option.getD_some] at e2
      rw [lf, e2]
      rfl
    · have := sums_is (row := row) (p := p) (q := q) hp g (b + 1) (fun x => max 0 (match c.lookup x with
          | some n => max 0 (f x - p * ((b : Int) - (before : Int))) + q * (n : Int) - p
          | none => max 0 (f x - p * ((b : Int) - (before : Int))) - p)) (fun x => by
        rw [sumN_succ]
        unfold topN
        rw [lf, ← cn x]
        unfold cGet
        cases c.lookup x with
        | none => simp
        | some n => rfl) (fun z hz => h z (List.mem_cons_of_mem _ hz)) up.2 (fun z hz => up.1 z.1 (List.mem_map_of_mem (f := (·.1)) hz)) (fun x t ht hm => by
        have := al x t (by omega) hm
        rw [List.map_cons, List.mem_cons] at this
        rcases this with e | e
        · omega
        · exact e)
      rw [show ((b + 1 : Nat) : Int) = (b : Int) + 1 by omega] at this
      exact this
/-- what sums_of tells -/
def sumsL (p q : Int) (row : List PutN) : List (Nat × Told) := sumsG p q (fun _ => 0) 0 (gOf row)
theorem sumsL_is {row : List PutN} {p q : Int} (hp : 0 ≤ p) (up : (row.map (·.1)).Pairwise (· ≤ ·)) (nd : ∀ r ∈ row, r.2.Nodup) : sumsL p q row = (gOf row).map (toldOf row p q) := by
  have G := gOf_is up nd
  refine sums_is (row := row) hp (gOf row) 0 _ (fun x => rfl) (fun z hz => ⟨G.ok.nd z hz, fun x => G.cnt (b := z.1) (c := z.2) hz x⟩) G.up (fun z _ => Nat.zero_le _) fun x t _ m => (G.mem t).mpr ?_
  obtain ⟨w, h1, _⟩ := mem_bts.mp m
  exact List.mem_map_of_mem (f := (·.1)) h1
/-- a told sum -/
theorem told_iff {row : List PutN} {p q : Int} (hp : 0 ≤ p) (up : (row.map (·.1)).Pairwise (· ≤ ·)) (nd : ∀ r ∈ row, r.2.Nodup) {b : Nat} {t : Told} (m : (b, t) ∈ sumsL p q row) (x : Str) :
    t.lookup x = if b ∈ bts row x then some (topN p q (bts row x) b) else none := by
  have G := gOf_is up nd
  rw [sumsL_is hp up nd] at m
  obtain ⟨⟨b', c⟩, hz, e⟩ := List.mem_map.mp m
  unfold toldOf at e
  cases e
  have cn := G.cnt hz x
  have pos := G.ok.pos _ hz
  have key : ∀ c : Cnt, (∀ q ∈ c, 0 < q.2) → (c.map fun y => (y.1, topN p q (bts row y.1) b')).lookup x = if 0 < cGet c x then some (topN p q (bts row x) b') else none := by
    intro c
    induction c with
    | nil => intro _; rfl
    | cons a c ih =>
      intro hpos
      obtain ⟨y, n⟩ := a
      have ih := ih fun q hq => hpos q (List.mem_cons_of_mem _ hq)
      unfold cGet at ih ⊢
      rw [List.map_cons, List.lookup_cons, List.lookup_cons]
      by_cases e : x = y
      · subst e
        have := hpos (x, n) List.mem_cons_self
        simp at this
        simp [this]
      · have e2 : (x == y) = false := by simpa using e
        rw [e2]
        exact ih
  rw [key c pos, cn]
  by_cases m : b' ∈ bts row x
  · rw [if_pos m, if_pos (List.count_pos_iff.mpr m)]
  · rw [if_neg m, List.count_eq_zero.mpr m]; rfl
theorem told_beats {row : List PutN} {p q : Int} (hp : 0 ≤ p) (up : (row.map (·.1)).Pairwise (· ≤ ·)) (nd : ∀ r ∈ row, r.2.Nodup) : (sumsL p q row).map (·.1) = (gOf row).map (·.1) := by
  rw [sumsL_is hp up nd, List.map_map]
  rfl
/-! ### dicts, key by key -/
theorem kGet_of {κ : Type} [DecidableEq κ] (k : κ) (v : D) (r : List (κ × D)) (x : κ) : kGet ((k, v) :: r) x = if k = x then some v else kGet r x := by
  unfold kGet
  rw [List.find?_cons]
  by_cases e : k = x
  · simp [e]
  · simp [e]
theorem kPut_nil {κ : Type} [DecidableEq κ] (k : κ) (v : D) : kPut [] k v = [(k, v)] := rfl
theorem kPut_ne {κ : Type} [DecidableEq κ] {k x : κ} (v w : D) (r : List (κ × D)) (h : k ≠ x) : kPut ((k, v) :: r) x w = (k, v) :: kPut r x w := by
  unfold kPut
  simp only [List.any_cons, h, decide_false, Bool.false_or, List.map_cons, if_false]
  split <;> rfl
theorem kPut_same {κ : Type} [DecidableEq κ] {k : κ} (v w : D) (r : List (κ × D)) (h : k ∉ r.map (·.1)) : kPut ((k, v) :: r) k w = (k, w) :: r := by
  unfold kPut
  simp only [List.any_cons, decide_true, Bool.true_or, if_true, List.map_cons]
  congr 1
  refine (List.map_congr_left fun z hz => ?_).trans (List.map_id _)
  have : z.1 ≠ k := fun e => h (e ▸ List.mem_map_of_mem (f := (·.1)) hz)
  rw [if_neg this]
  rfl
theorem kPut_end {κ : Type} [DecidableEq κ] {k : κ} (w : D) : ∀ (r : List (κ × D)), k ∉ r.map (·.1) → kPut r k w = r ++ [(k, w)]
  | [], _ => rfl
  | (x, v) :: r, h => by
    rw [List.map_cons, List.mem_cons] at h
    rw [kPut_ne v w r (fun e => h (.inl e.symm)), kPut_end w r fun m => h (.inr m)]
    rfl
/-- pairs whose keys are unlike are a dict as they stand -/
theorem kMerge_nodup : ∀ (l done : List (Ky × D)), ((done ++ l).map (·.1)).Nodup → kMerge done l = done ++ l
  | [], done, _ => by simp [kMerge]
  | (k, v) :: l, done, h => by
    show kMerge (kPut done k v) l = _
    have hk : k ∉ done.map (·.1) := fun m => by
      rw [List.map_append, List.nodup_append] at h
      exact h.2.2 k m k (by simp) rfl
    rw [kPut_end v done hk, kMerge_nodup l (done ++ [(k, v)]) (by simpa using h)]
    simp
/-! counts as dicts -/
abbrev cD (c : Cnt) : List (Ky × D) := c.map fun z => ((.inr z.1 : Ky), D.int (z.2 : Int))
theorem cD_get (c : Cnt) (x : Str) : (kGet (cD c) (.inr x)).getD (.int 0) = .int (cGet c x : Int) := by
  induction c with
  | nil => rfl
  | cons a c ih =>
    obtain ⟨y, n⟩ := a
    rw [cD, List.map_cons, kGet_of]
    unfold cGet at *
    rw [List.lookup_cons]
    by_cases e : x = y
    · subst e; simp
    · have e1 : ¬ (Sum.inr y : Ky) = .inr x := fun z => e (Sum.inr.inj z).symm
      have e2 : (x == y) = false := by simpa using e
      rw [if_neg e1, e2]
      exact ih
theorem inr_mem {α : Type} (c : List (Str × α)) (x : Str) (v : Str × α → D) : (Sum.inr x : Ky) ∈ (c.map fun z => ((.inr z.1 : Ky), v z)).map (·.1) ↔ x ∈ c.map (·.1) := by
  induction c with
  | nil => simp
  | cons a c ih =>
    rw [List.map_cons, List.map_cons, List.map_cons, List.mem_cons, List.mem_cons, ih]
    constructor
    · rintro (h | h)
      · exact .inl (Sum.inr.inj h)
      · exact .inr h
    · rintro (h | h)
      · exact .inl (congrArg Sum.inr h)
      · exact .inr h
theorem cD_put : ∀ {c : Cnt} (nd : (c.map (·.1)).Nodup) (x : Str), kPut (cD c) (.inr x) (.int ((cGet c x : Int) + 1)) = cD (cAdd c x)
  | [], _, x => rfl
  | (y, n) :: c, nd, x => by
    rw [List.map_cons, List.nodup_cons] at nd
    by_cases e : y = x
    · subst e
      rw [cD, List.map_cons, kPut_same _ _ _ (fun m => nd.1 ((inr_mem c y _).mp m))]
      unfold cAdd cGet
      simp
    · have e1 : ¬ (Sum.inr y : Ky) = .inr x := fun z => e (Sum.inr.inj z)
      have e2 : (x == y) = false := by simpa using fun z => e z.symm
      rw [cD, List.map_cons, kPut_ne _ _ _ e1]
      have ih := cD_put nd.2 x
      unfold cGet at *
      rw [List.lookup_cons, e2]
      unfold cAdd
      rw [if_neg e]
      exact congrArg (List.cons _) ih
theorem inr_nodup {α : Type} {c : List (Str × α)} {v : Str × α → D} (h : (c.map (·.1)).Nodup) : ((c.map fun z => ((.inr z.1 : Ky), v z)).map (·.1)).Nodup := by
  induction c with
  | nil => exact List.nodup_nil
  | cons a c ih =>
    rw [List.map_cons, List.nodup_cons] at h
    rw [List.map_cons, List.map_cons, List.nodup_cons]
    exact ⟨fun m => h.1 ((inr_mem c a.1 v).mp m), ih h.2⟩
end Mi

/-! # The first stretch with too many letters -/
namespace Mi
open PySem
/-- first_begin: along the beats that are left, the stretch can begin from ahead on -/
def fbR (p q burst e : Int) : Int → List Nat → Option (Int × Int)
  | _, [] => none
  | ahead, b :: r =>
    let many : Int := (r.length : Int) + 1
    let most : Int := if burst < many then ((many - burst) * q - 1) / p else 0
    let begin : Int := max ahead (e + 1 - most)
    if 0 < most ∧ begin ≤ (b : Int) then some (begin, many) else fbR p q burst e ((b : Int) + 1) r
/-- too many letters from a to e -/
def overN (p q burst : Int) (L : List Nat) (a e : Nat) : Prop := burst * q < strN p q L a e
instance (p q burst : Int) (L : List Nat) (a e : Nat) : Decidable (overN p q burst L a e) := by unfold overN; infer_instance
theorem manyN_split {L done r : List Nat} {a e : Nat} (h : L.filter (fun t => decide (t ≤ e)) = done ++ r) (h1 : ∀ t ∈ done, t < a) (h2 : ∀ t ∈ r, a ≤ t) : manyN L a e = r.length := by
  have e1 : manyN L a e = (L.filter (fun t => decide (t ≤ e))).countP fun t => decide (a ≤ t) := by
    unfold manyN
    rw [List.countP_filter]
  rw [e1, h, List.countP_append, List.countP_eq_zero.mpr fun t ht => by have := h1 t ht; simp; omega, List.countP_eq_length.mpr fun t ht => by have := h2 t ht; simpa using this]
  omega
theorem over_most {p q burst : Int} {L : List Nat} {a e : Nat} (hp : 0 < p) (hq : 0 < q) (ha : a ≤ e) {m : Int} (hm : (manyN L a e : Int) = m) : overN p q burst L a e ↔ 0 < (if burst < m then ((m - burst) * q - 1) / p else 0) ∧ (e : Int) + 1 - (if burst < m then ((m - burst) * q - 1) / p else 0) ≤ (a : Int) := by
  unfold overN strN
  rw [hm]
  by_cases c : burst < m
  · rw [if_pos c]
    have e1 : burst * q < q * m - p * ((e : Int) + 1 - (a : Int)) ↔ ((e : Int) + 1 - (a : Int)) * p ≤ (m - burst) * q - 1 := by
      rw [Int.mul_comm ((e : Int) + 1 - (a : Int)) p, Int.sub_mul, Int.mul_comm m q]
      omega
    rw [e1, ← Int.le_ediv_iff_mul_le hp]
    generalize ((m - burst) * q - 1) / p = z
    omega
  · rw [if_neg c]
    have e2 : q * m ≤ burst * q := by rw [Int.mul_comm burst q]; exact Int.mul_le_mul_of_nonneg_left (by omega) (by omega)
    have e3 : 0 ≤ p * ((e : Int) + 1 - (a : Int)) := Int.mul_nonneg (by omega) (by omega)
    omega
theorem fbR_is {p q burst : Int} {L : List Nat} {e : Nat} (hp : 0 < p) (hq : 0 < q) (hb : 0 ≤ burst) : ∀ (r done : List Nat) (ahead : Nat), L.filter (fun t => decide (t ≤ e)) = done ++ r → (∀ t ∈ done, t < ahead) → (∀ t ∈ r, ahead ≤ t + 1) → r.Pairwise (· ≤ ·) → (∀ a, a < ahead → ¬ overN p q burst L a e) → ahead ≤ e + 1 →
    (fbR p q burst (e : Int) (ahead : Int) r = none ∧ ∀ a, a ≤ e → ¬ overN p q burst L a e) ∨ ∃ a : Nat, a ≤ e ∧ fbR p q burst (e : Int) (ahead : Int) r = some ((a : Int), (manyN L a e : Int)) ∧ overN p q burst L a e ∧ ∀ a', a' < a → ¬ overN p q burst L a' e
  | [], done, ahead, h, h1, _, _, no, _ => .inl ⟨rfl, fun a ha => by
      by_cases c : a < ahead
      · exact no a c
      · have := manyN_split (a := a) h (fun t ht => by have := h1 t ht; omega) (fun t ht => nomatch ht)
        unfold overN strN
        rw [this]
        have e3 : 0 ≤ p * ((e : Int) + 1 - (a : Int)) := Int.mul_nonneg (by omega) (by omega)
        have e4 : 0 ≤ burst * q := Int.mul_nonneg hb (by omega)
        simp
        omega⟩
  | b :: r, done, ahead, h, h1, h2, up, no, hl => by
    rw [List.pairwise_cons] at up
    have be : b ≤ e := by
      have : b ∈ L.filter (fun t => decide (t ≤ e)) := by rw [h]; simp
      exact of_decide_eq_true (List.mem_filter.mp this).2
    have hb1 := h2 b List.mem_cons_self
    have cnt : ∀ a, ahead ≤ a → a ≤ b → (manyN L a e : Int) = (r.length : Int) + 1 := fun a a1 a2 => by
      rw [manyN_split (a := a) h (fun t ht => by have := h1 t ht; omega) (fun t ht => by
        rcases List.mem_cons.mp ht with rfl | ht
        · exact a2
        · have := up.1 t ht; omega)]
      simp
    unfold fbR
    simp only
    have iff : ∀ a, ahead ≤ a → a ≤ b → (overN p q burst L a e ↔ _) := fun a a1 a2 => over_most hp hq (Nat.le_trans a2 be) (cnt a a1 a2)
    generalize (if burst < (r.length : Int) + 1 then (((r.length : Int) + 1 - burst) * q - 1) / p else 0) = most at iff ⊢
    by_cases c : 0 < most ∧ max (ahead : Int) ((e : Int) + 1 - most) ≤ (b : Int)
    · rw [if_pos c]
      obtain ⟨c1, c2⟩ := c
      obtain ⟨a, ea⟩ : ∃ a : Nat, max (ahead : Int) ((e : Int) + 1 - most) = (a : Int) := ⟨(max (ahead : Int) ((e : Int) + 1 - most)).toNat, by omega⟩
      have a1 : ahead ≤ a := by omega
      have a2 : a ≤ b := by omega
      refine .inr ⟨a, by omega, by rw [ea, cnt a a1 a2], (iff a a1 a2).mpr ⟨c1, by omega⟩, fun a' ha' => ?_⟩
      by_cases d : a' < ahead
      · exact no a' d
      · intro ov
        have := (iff a' (by omega) (by omega)).mp ov
        omega
    · rw [if_neg c]
      have := fbR_is hp hq hb r (done ++ [b]) (b + 1) (by rw [h]; simp) (fun t ht => by
        rcases List.mem_append.mp ht with ht | ht
        · have := h1 t ht; omega
        · have : t = b := by simpa using ht
          omega) (fun t ht => by have := up.1 t ht; omega) up.2 (fun a ha => by
        by_cases d : a < ahead
        · exact no a d
        · intro ov
          have := (iff a (by omega) (by omega)).mp ov
          exact c ⟨this.1, by omega⟩) (by omega)
      rw [show ((b + 1 : Nat) : Int) = (b : Int) + 1 by omega] at this
      exact this
/-- first_begin of a road's beats that ascend -/
theorem fbR_of {p q burst : Int} {L : List Nat} {e : Nat} (hp : 0 < p) (hq : 0 < q) (hb : 0 ≤ burst) (up : L.Pairwise (· ≤ ·)) :
    (fbR p q burst (e : Int) 0 (L.filter fun t => decide (t ≤ e)) = none ∧ ∀ a, a ≤ e → ¬ overN p q burst L a e) ∨ ∃ a : Nat, a ≤ e ∧ fbR p q burst (e : Int) 0 (L.filter fun t => decide (t ≤ e)) = some ((a : Int), (manyN L a e : Int)) ∧ overN p q burst L a e ∧ ∀ a', a' < a → ¬ overN p q burst L a' e :=
  fbR_is hp hq hb (L.filter fun t => decide (t ≤ e)) [] 0 rfl (fun t ht => nomatch ht) (fun t _ => Nat.zero_le _) (up.filter _) (fun a ha => absurd ha (Nat.not_lt_zero a)) (Nat.zero_le _)
theorem bts_up {row : List PutN} (up : (row.map (·.1)).Pairwise (· ≤ ·)) (x : Str) : (bts row x).Pairwise (· ≤ ·) := by
  unfold bts
  exact up.sublist (List.Sublist.map _ List.filter_sublist)
/-- over at a beat: by the told sum -/
theorem top_over {p q burst : Int} {L : List Nat} {e : Nat} : burst * q < topN p q L e ↔ ∃ a, a ≤ e ∧ overN p q burst L a e := by
  constructor
  · intro h
    obtain ⟨a, ha, ea⟩ := topN_at (p := p) (q := q) (L := L) e
    exact ⟨a, ha, by unfold overN; rw [← ea]; exact h⟩
  · rintro ⟨a, ha, h⟩
    exact Int.lt_of_lt_of_le h (topN_up ha)
/-- what is over at a beat without a letter is over at an earlier one -/
theorem over_back {p q burst : Int} {L : List Nat} {a e : Nat} (hp : 0 < p) (hq : 0 < q) (hb : 0 ≤ burst) (ha : a ≤ e) (h : overN p q burst L a e) : ∃ e', e' ∈ L ∧ a ≤ e' ∧ e' ≤ e ∧ overN p q burst L a e' := by
  induction e with
  | zero =>
    by_cases m : 0 ∈ L
    · exact ⟨0, m, ha, Nat.le_refl _, h⟩
    · exfalso
      have a0 : a = 0 := by omega
      subst a0
      unfold overN strN at h
      rw [manyN_one, List.count_eq_zero.mpr m] at h
      have e4 : 0 ≤ burst * q := Int.mul_nonneg hb (by omega)
      simp at h
      omega
  | succ e ih =>
    by_cases m : e + 1 ∈ L
    · exact ⟨e + 1, m, ha, Nat.le_refl _, h⟩
    · by_cases c : a = e + 1
      · exfalso
        subst c
        unfold overN strN at h
        rw [manyN_one, List.count_eq_zero.mpr m] at h
        have e4 : 0 ≤ burst * q := Int.mul_nonneg hb (by omega)
        have e1 : p * (((e + 1 : Nat) : Int) + 1 - ((e + 1 : Nat) : Int)) = p := by rw [show (((e + 1 : Nat) : Int) + 1 - ((e + 1 : Nat) : Int)) = 1 by omega, Int.mul_one]
        rw [e1] at h
        simp at h
        omega
      · have h' : overN p q burst L a e := by
          unfold overN at h ⊢
          rw [strN_step (by omega), List.count_eq_zero.mpr m] at h
          simp at h
          omega
        obtain ⟨e', h1, h2, h3, h4⟩ := ih (by omega) h'
        exact ⟨e', h1, h2, by omega, h4⟩
/-! ### along a list of the store that stays -/
theorem mapSrc_loc {α β : Type} {f : D → Sto → R β} {h : α → D} {g : α → β} {s : Sto} {n : Nat} {l : List α} (hl : s[n]? = some (.lst (l.map h))) (q : ∀ a ∈ l, f (h a) s = .ok (g a) s) : mapSrc f (.at_ n l.length) s = .ok (l.map g) s := by
  obtain ⟨bs, S', q1, q2, q3, q4⟩ := mapSrc_at (f := f) (l := n) (xs := l.map h) (s := s) (I := fun i X => X = s) (Q := fun d b => ∃ a, d = h a ∧ f d s = .ok b s) (fun i X hX => by rw [hX]; exact hl) rfl (fun i d X hd hX => by
    subst hX
    rw [List.getElem?_map] at hd
    obtain ⟨a, ha, e⟩ := Option.map_eq_some_iff.mp hd
    subst e
    exact ⟨g a, X, q a (List.mem_of_getElem? ha), rfl, a, rfl, q a (List.mem_of_getElem? ha)⟩)
  subst q2
  rw [List.length_map] at q1 q3
  rw [q1]
  congr 1
  apply List.ext_getElem
  · rw [q3, List.length_map]
  · intro i h1 h2
    rw [List.length_map] at h2
    obtain ⟨a, e1, e2⟩ := q4 i (h l[i]) bs[i] (by rw [List.getElem?_map, List.getElem?_eq_getElem h2]; rfl) (List.getElem?_eq_getElem h1)
    rw [q l[i] (List.getElem_mem h2)] at e2
    rw [List.getElem_map]
    injection e2 with e2 _
    exact e2.symm
/-- a list, frozen or in the store -/
structure IsL (d : D) (S : Sto) (xs : List D) : Prop where
  at_ : d = .flst xs ∨ ∃ n, d = .loc n ∧ S[n]? = some (.lst xs)
theorem IsL.sq {d : D} {S : Sto} {xs : List D} (h : IsL d S xs) : Mi.sq d S = some (false, xs) := by
  rcases h.at_ with rfl | ⟨n, rfl, e⟩
  · rfl
  · exact sq_loc e
theorem IsL.lst {d : D} {S : Sto} {xs : List D} (h : IsL d S xs) : lstOf d S = some xs := by
  rcases h.at_ with rfl | ⟨n, rfl, e⟩
  · rfl
  · simp [lstOf, e]
theorem IsL.len {d : D} {S : Sto} {xs : List D} (h : IsL d S xs) : b1 .len d S = some (.int xs.length) := b1_len_sq h.sq
theorem IsL.map {α β : Type} {f : D → Sto → R β} {h : α → D} {g : α → β} {s : Sto} {d : D} {l : List α} (hd : IsL d s (l.map h)) (q : ∀ a ∈ l, f (h a) s = .ok (g a) s) : ∃ src, srcP (.val d) s = some src ∧ mapSrc f src s = .ok (l.map g) s := by
  rcases hd.at_ with rfl | ⟨n, rfl, e⟩
  · exact ⟨.fix (l.map h), rfl, by rw [mapSrc_fix]; exact mapR_map q⟩
  · refine ⟨.at_ n l.length, by simp [srcP, e], mapSrc_loc e q⟩
theorem IsL.up {d : D} {S S' : Sto} {xs : List D} (h : IsL d S xs) (k : ∀ n, d = .loc n → S'[n]? = S[n]?) : IsL d S' xs := by
  rcases h.at_ with rfl | ⟨n, rfl, e⟩
  · exact ⟨.inl rfl⟩
  · exact ⟨.inr ⟨n, rfl, (k n rfl).trans e⟩⟩
theorem IsL.app {d : D} {S u : Sto} {xs : List D} (h : IsL d S xs) : IsL d (S ++ u) xs := by
  rcases h.at_ with rfl | ⟨n, rfl, e⟩
  · exact ⟨.inl rfl⟩
  · exact ⟨.inr ⟨n, rfl, app_at e⟩⟩
theorem IsL.loc {n : Nat} {S : Sto} {xs : List D} (h : S[n]? = some (.lst xs)) : IsL (.loc n) S xs := ⟨.inr ⟨n, rfl, h⟩⟩
/-! ### one letter more -/
/-- from the last letter back: how many there are behind each -/
def fitR (p q burst beat : Int) : Int → List Nat → Bool
  | _, [] => true
  | m, t :: r => if (beat - (t : Int) + 1) * p / q + burst < m + 1 then false else fitR p q burst beat (m + 1) r
/-- does one letter more, none later, keep the rate -/
def fitB (p q burst beat : Int) (L : List Nat) : Bool := fitR p q burst beat 1 L.reverse
end Mi

/-! # The fullest rows: plain facts -/
namespace Mi
open PySem
/-- so many letters at the beats to this one -/
def totN (p q burst : Int) (b : Nat) : Int := ((b : Int) + 1) * p / q + burst
/-- ahead of this beat -/
def totB (p q burst : Int) : Nat → Int
  | 0 => 0
  | b + 1 => totN p q burst b
def fullL (p q burst : Int) : Nat → List Nat
  | 0 => []
  | b + 1 => fullL p q burst b ++ List.replicate (totN p q burst b - totB p q burst b).toNat b
section
variable {p q burst : Int}
theorem ediv_add_le {a b q : Int} (hq : 0 < q) : a / q + b / q ≤ (a + b) / q ∧ (a + b) / q ≤ a / q + b / q + 1 := by
  constructor
  · rw [Int.le_ediv_iff_mul_le hq, Int.add_mul]
    have := Int.ediv_mul_le a (Int.ne_of_gt hq)
    have := Int.ediv_mul_le b (Int.ne_of_gt hq)
    omega
  · have h : (a + b) / q < a / q + b / q + 2 := by
      rw [Int.ediv_lt_iff_lt_mul hq]
      have h1 := Int.lt_ediv_add_one_mul_self a hq
      have h2 := Int.lt_ediv_add_one_mul_self b hq
      have e : (a / q + b / q + 2) * q = (a / q + 1) * q + (b / q + 1) * q := by rw [← Int.add_mul]; congr 1; omega
      rw [e]
      omega
    omega
theorem tot_step (hp : 0 < p) (hpq : p < q) (b : Nat) : totN p q burst b ≤ totN p q burst (b + 1) ∧ totN p q burst (b + 1) ≤ totN p q burst b + 1 := by
  unfold totN
  have hq : 0 < q := by omega
  have e : (((b + 1 : Nat) : Int) + 1) * p = ((b : Int) + 1) * p + p := by rw [show (((b + 1 : Nat) : Int) + 1) = ((b : Int) + 1) + 1 by omega, Int.add_mul, Int.one_mul]
  have := ediv_add_le (a := ((b : Int) + 1) * p) (b := p) hq
  have z : p / q = 0 := Int.ediv_eq_zero_of_lt (by omega) hpq
  rw [e]
  omega
theorem tot_zero (hp : 0 < p) (hpq : p < q) : totN p q burst 0 = burst := by
  unfold totN
  have z : p / q = 0 := Int.ediv_eq_zero_of_lt (by omega) hpq
  simp [z]
theorem tot_ahead (hp : 0 < p) (hpq : p < q) (hb : 1 ≤ burst) (b : Nat) : 0 ≤ totB p q burst b ∧ totB p q burst b ≤ totN p q burst b := by
  have nn : ∀ b, burst ≤ totN p q burst b := by
    intro b
    induction b with
    | zero => rw [tot_zero hp hpq]; omega
    | succ b ih => have := (tot_step (burst := burst) hp hpq b).1; omega
  cases b with
  | zero => have := nn 0; simp only [totB]; omega
  | succ b => have := nn b; have := (tot_step (burst := burst) hp hpq b).1; simp only [totB]; omega
theorem full_len (hp : 0 < p) (hpq : p < q) (hb : 1 ≤ burst) : ∀ b, ((fullL p q burst b).length : Int) = totB p q burst b
  | 0 => rfl
  | b + 1 => by
    have := full_len hp hpq hb b
    have := tot_ahead hp hpq hb b
    rw [show totB p q burst (b + 1) = totN p q burst b from rfl]
    simp only [fullL, List.length_append, List.length_replicate]
    omega
theorem full_at (hp : 0 < p) (hpq : p < q) (hb : 1 ≤ burst) : ∀ (b i t : Nat), (fullL p q burst b)[i]? = some t → totB p q burst t ≤ (i : Int) ∧ t < b
  | 0, i, t, h => by simp [fullL] at h
  | b + 1, i, t, h => by
    have hl := full_len hp hpq hb b
    simp only [fullL] at h
    by_cases c : i < (fullL p q burst b).length
    · rw [List.getElem?_append_left c] at h
      have := full_at hp hpq hb b i t h
      exact ⟨this.1, by omega⟩
    · rw [List.getElem?_append_right (by omega)] at h
      have := List.mem_of_getElem? h
      have e := List.eq_of_mem_replicate this
      subst e
      exact ⟨by omega, by omega⟩
theorem full_head (hp : 0 < p) (hpq : p < q) (hb : 1 ≤ burst) : ∀ b, 0 < b → (fullL p q burst b)[0]? = some 0
  | 0, h => absurd h (by decide)
  | 1, _ => by
    have := tot_zero (burst := burst) hp hpq
    simp only [fullL, totB, List.nil_append]
    rw [this]
    have : (burst - 0).toNat = (burst - 1).toNat + 1 := by omega
    rw [this, List.replicate_succ]
    rfl
  | b + 2, _ => by
    have ih := full_head hp hpq hb (b + 1) (by omega)
    rw [fullL, List.getElem?_append_left (List.getElem?_eq_some_iff.mp ih).1]
    exact ih
theorem fitR_iff {beat : Int} : ∀ (r : List Nat) (m : Int), fitR p q burst beat m r = true ↔ ∀ (i : Nat) t, r[i]? = some t → m + (i : Int) + 1 ≤ (beat - (t : Int) + 1) * p / q + burst
  | [], m => by simp [fitR]
  | b :: r, m => by
    rw [fitR]
    by_cases c : (beat - (b : Int) + 1) * p / q + burst < m + 1
    · rw [if_pos c]
      constructor
      · intro h; cases h
      · intro h
        have := h 0 b rfl
        simp at this
        omega
    · rw [if_neg c, fitR_iff r (m + 1)]
      constructor
      · intro h i t ht
        cases i with
        | zero => simp at ht; subst ht; simp; omega
        | succ i => have := h i t (by simpa using ht); rw [show ((i + 1 : Nat) : Int) = (i : Int) + 1 by omega]; omega
      · intro h i t ht
        have := h (i + 1) t (by simpa using ht)
        rw [show ((i + 1 : Nat) : Int) = (i : Int) + 1 by omega] at this
        omega
/-- a letter more fits just as long as the told number is not reached -/
theorem fit_full (hp : 0 < p) (hpq : p < q) (hb : 1 ≤ burst) (b m : Nat) (hm : totB p q burst b + (m : Int) ≤ totN p q burst b) :
    fitB p q burst (b : Int) (fullL p q burst b ++ List.replicate m b) = decide (totB p q burst b + (m : Int) + 1 ≤ totN p q burst b) := by
  have hq : 0 < q := by omega
  have hl := full_len hp hpq hb b
  have z0 : p / q = 0 := Int.ediv_eq_zero_of_lt (by omega) hpq
  unfold fitB
  have key : fitR p q burst (b : Int) 1 (fullL p q burst b ++ List.replicate m b).reverse = true ↔ totB p q burst b + (m : Int) + 1 ≤ totN p q burst b := by
    rw [fitR_iff, List.reverse_append, List.reverse_replicate]
    constructor
    · intro h
      cases b with
      | zero =>
        rw [tot_zero hp hpq]
        simp only [totB]
        cases m with
        | zero => simp; omega
        | succ m =>
          have := h m 0 (by rw [List.getElem?_append_left (by simp)]; simp)
          simp [z0] at this
          omega
      | succ b =>
        have h0 := full_head (p := p) (q := q) (burst := burst) hp hpq hb (b + 1) (by omega)
        have h0l := (List.getElem?_eq_some_iff.mp h0).1
        have := h (m + ((fullL p q burst (b + 1)).length - 1)) 0 (by
          rw [List.getElem?_append_right (by simp), List.length_replicate, List.getElem?_reverse (by omega)]
          rw [show (fullL p q burst (b + 1)).length - 1 - (m + ((fullL p q burst (b + 1)).length - 1) - m) = 0 by omega]
          exact h0)
        have e : (((b + 1 : Nat) : Int) - ((0 : Nat) : Int) + 1) * p / q + burst = totN p q burst (b + 1) := by unfold totN; simp
        rw [e] at this
        omega
    · intro h i t ht
      by_cases c : i < m
      · rw [List.getElem?_append_left (by simpa using c)] at ht
        have e := List.eq_of_mem_replicate (List.mem_of_getElem? ht)
        subst e
        rw [show ((t : Int) - (t : Int) + 1) * p = p by rw [Int.sub_self, Int.zero_add, Int.one_mul], z0]
        cases t with
        | zero => rw [tot_zero hp hpq] at h; simp only [totB] at h; omega
        | succ t =>
          have := (tot_step (burst := burst) hp hpq t).2
          simp only [totB] at h
          omega
      · rw [List.getElem?_append_right (by simpa using c), List.length_replicate] at ht
        have hi : i - m < (fullL p q burst b).length := by
          have := (List.getElem?_eq_some_iff.mp ht).1
          simpa using this
        rw [List.getElem?_reverse hi] at ht
        obtain ⟨h1, h2⟩ := full_at hp hpq hb b _ t ht
        have lim : totN p q burst b - totB p q burst t ≤ ((b : Int) - (t : Int) + 1) * p / q + burst := by
          cases t with
          | zero => unfold totN; simp [totB]
          | succ t =>
            unfold totN at *
            simp only [totB, totN]
            have e : ((b : Int) + 1) * p = ((t : Int) + 1) * p + ((b : Int) - ((t + 1 : Nat) : Int) + 1) * p := by rw [← Int.add_mul]; congr 1; omega
            have := (ediv_add_le (a := ((t : Int) + 1) * p) (b := ((b : Int) - ((t + 1 : Nat) : Int) + 1) * p) hq).2
            rw [e]
            omega
        omega
  by_cases c : totB p q burst b + (m : Int) + 1 ≤ totN p q burst b
  · rw [decide_eq_true c]; exact key.mpr c
  · rw [decide_eq_false c]
    cases hf : fitR p q burst (b : Int) 1 (fullL p q burst b ++ List.replicate m b).reverse with
    | false => rfl
    | true => exact absurd (key.mp hf) c
/-- at most so many more at one beat -/
theorem tot_few (hp : 0 < p) (hpq : p < q) (hb : 1 ≤ burst) (b : Nat) : totN p q burst b - totB p q burst b ≤ burst := by
  cases b with
  | zero => rw [tot_zero hp hpq]; simp only [totB]; omega
  | succ b => have := (tot_step (burst := burst) hp hpq b).2; simp only [totB]; omega
/-! ### the fullest row keeps the rate -/
theorem full_up : ∀ b, (fullL p q burst b).Pairwise (· ≤ ·) ∧ ∀ t ∈ fullL p q burst b, t < b
  | 0 => ⟨List.Pairwise.nil, fun t ht => nomatch ht⟩
  | b + 1 => by
    obtain ⟨h1, h2⟩ := full_up b
    simp only [fullL]
    refine ⟨?_, fun t ht => ?_⟩
    · rw [List.pairwise_append]
      refine ⟨h1, List.pairwise_replicate.mpr (.inr (Nat.le_refl _)), fun x hx y hy => ?_⟩
      have := h2 x hx
      have := List.eq_of_mem_replicate hy
      omega
    · rcases List.mem_append.mp ht with ht | ht
      · have := h2 t ht; omega
      · have := List.eq_of_mem_replicate ht; omega
theorem full_count (hp : 0 < p) (hpq : p < q) (hb : 1 ≤ burst) : ∀ (b a e : Nat), e < b → (manyN (fullL p q burst b) a e : Int) ≤ (if a ≤ e then totN p q burst e - totB p q burst a else 0)
  | 0, a, e, h => absurd h (Nat.not_lt_zero _)
  | b + 1, a, e, h => by
    have split : manyN (fullL p q burst (b + 1)) a e = manyN (fullL p q burst b) a e + manyN (List.replicate (totN p q burst b - totB p q burst b).toNat b) a e := by
      unfold manyN
      simp only [fullL, List.countP_append]
    have rep : ∀ n, manyN (List.replicate n b) a e = if a ≤ b ∧ b ≤ e then n else 0 := by
      intro n
      unfold manyN
      rw [List.countP_replicate]
      by_cases c : a ≤ b ∧ b ≤ e
      · simp [c]
      · rw [if_neg c]
        have : (decide (a ≤ b) && decide (b ≤ e)) = false := by
          simp only [Bool.and_eq_false_iff, decide_eq_false_iff_not]
          omega
        simp [this]
    rw [split, rep]
    have ta := tot_ahead hp hpq hb b
    by_cases c : e < b
    · have := full_count hp hpq hb b a e c
      rw [if_neg (by omega)]
      simpa using this
    · have eb : e = b := by omega
      subst eb
      cases e with
      | zero =>
        have e0 : manyN (fullL p q burst 0) a 0 = 0 := by simp [manyN, fullL]
        rw [e0]
        by_cases d : a ≤ 0
        · have : a = 0 := by omega
          subst this
          rw [if_pos ⟨Nat.le_refl _, Nat.le_refl _⟩, if_pos (Nat.le_refl _)]
          omega
        · rw [if_neg (by omega), if_neg d]; simp
      | succ e =>
        have ih := full_count hp hpq hb (e + 1) a e (by omega)
        have st : manyN (fullL p q burst (e + 1)) a (e + 1) = manyN (fullL p q burst (e + 1)) a e := by
          by_cases d : a ≤ e + 1
          · rw [manyN_step _ d, List.count_eq_zero.mpr fun m => by have := (full_up (p := p) (q := q) (burst := burst) (e + 1)).2 _ m; omega]
            omega
          · rw [manyN_above _ (by omega), manyN_above _ (by omega)]
        rw [st]
        by_cases d : a ≤ e + 1
        · rw [if_pos ⟨d, Nat.le_refl _⟩, if_pos d]
          by_cases d2 : a ≤ e
          · rw [if_pos d2] at ih
            rw [show totB p q burst (e + 1) = totN p q burst e from rfl] at ta ⊢
            omega
          · have : a = e + 1 := by omega
            subst this
            rw [if_neg (by omega)] at ih
            omega
        · rw [if_neg (by omega), if_neg d]
          rw [if_neg (by omega)] at ih
          simpa using ih
theorem full_keeps (hp : 0 < p) (hpq : p < q) (hb : 1 ≤ burst) (b : Nat) {a e : Nat} (ha : a ≤ e) : ¬ overN p q burst (fullL p q burst b) a e := by
  intro ov
  have hq : 0 < q := by omega
  obtain ⟨e', m1, m2, _, m4⟩ := over_back hp hq (by omega) ha ov
  have eb := (full_up (p := p) (q := q) (burst := burst) b).2 e' m1
  have ov2 := (over_iff hq m2).mpr m4
  have cn := full_count hp hpq hb b a e' eb
  rw [if_pos m2] at cn
  have lim : totN p q burst e' - totB p q burst a ≤ ((e' : Int) + 1 - (a : Int)) * p / q + burst := by
    cases a with
    | zero => unfold totN; simp [totB]
    | succ a =>
      simp only [totB, totN]
      have e : ((e' : Int) + 1) * p = ((a : Int) + 1) * p + ((e' : Int) + 1 - ((a + 1 : Nat) : Int)) * p := by rw [← Int.add_mul]; congr 1; omega
      have := (ediv_add_le (a := ((a : Int) + 1) * p) (b := ((e' : Int) + 1 - ((a + 1 : Nat) : Int)) * p) hq).2
      rw [e]
      omega
  omega
end
end Mi

/-! # Rows that keep a rate: letter by letter, joined, led later, thinned -/
namespace Mi
open PySem L2
/-- no stretch has more than the rate lets -/
def CleanL (p q burst : Int) (L : List Nat) : Prop := ∀ e a : Nat, a ≤ e → ¬ overN p q burst L a e
theorem clean_iff {p q burst : Int} {L : List Nat} (hq : 0 < q) : CleanL p q burst L ↔ ∀ e a : Nat, a ≤ e → (manyN L a e : Int) ≤ ((e : Int) + 1 - (a : Int)) * p / q + burst := by
  constructor
  · intro h e a ha
    have := h e a ha
    rcases Int.lt_or_le (((e : Int) + 1 - (a : Int)) * p / q + burst) (manyN L a e : Int) with z | z
    · exact absurd ((over_iff hq ha).mp z) this
    · exact z
  · intro h e a ha ov
    have := (over_iff hq ha).mpr ov
    have := h e a ha
    omega
theorem div_mono {x y p q p' : Int} (hq : 0 < q) (hx : 0 ≤ x) (hxy : x ≤ y) (hp : 0 ≤ p) (hpp : p ≤ p') : x * p / q ≤ y * p' / q := by
  apply Int.ediv_le_ediv hq
  have h1 : x * p ≤ y * p := Int.mul_le_mul_of_nonneg_right hxy hp
  have h2 : y * p ≤ y * p' := Int.mul_le_mul_of_nonneg_left hpp (by omega)
  omega
theorem clean_nil {p q burst : Int} (hp : 0 ≤ p) (hq : 0 < q) (hb : 0 ≤ burst) : CleanL p q burst [] := by
  rw [clean_iff hq]
  intro e a ha
  have : (manyN [] a e : Int) = 0 := rfl
  rw [this]
  have := Int.ediv_nonneg (a := ((e : Int) + 1 - (a : Int)) * p) (b := q) (Int.mul_nonneg (by omega) hp) (Int.le_of_lt hq)
  omega
theorem desc_at {a : Nat} : ∀ (R : List Nat), R.Pairwise (· ≥ ·) → ∀ c, R.countP (fun t => decide (a ≤ t)) = c + 1 → ∃ y, R[c]? = some y ∧ a ≤ y
  | [], _, c, h => by simp at h
  | y :: R, pw, c, h => by
    rw [List.pairwise_cons] at pw
    rw [List.countP_cons] at h
    by_cases ay : a ≤ y
    · rw [if_pos (decide_eq_true ay)] at h
      cases c with
      | zero => exact ⟨y, rfl, ay⟩
      | succ c =>
        obtain ⟨z, h1, h2⟩ := desc_at (a := a) R pw.2 c (by omega)
        exact ⟨z, by simpa using h1, h2⟩
    · rw [if_neg (by simpa using ay)] at h
      have : R.countP (fun t => decide (a ≤ t)) = 0 := by
        rw [List.countP_eq_zero]
        intro z hz
        have := pw.1 z hz
        simp
        omega
      omega
theorem many_snoc (L : List Nat) (t a e : Nat) : manyN (L ++ [t]) a e = manyN L a e + if a ≤ t ∧ t ≤ e then 1 else 0 := by
  unfold manyN
  rw [List.countP_append, List.countP_singleton]
  by_cases c : a ≤ t ∧ t ≤ e
  · rw [if_pos c, if_pos (by simpa using c)]
  · rw [if_neg c, if_neg (by simpa using c)]
/-- one letter more that fits -/
theorem clean_put {p q burst : Int} {L : List Nat} {t : Nat} (hp : 0 < p) (hq : 0 < q) (hb : 1 ≤ burst) (c : CleanL p q burst L) (up : L.Pairwise (· ≤ ·)) (lt : ∀ y ∈ L, y ≤ t) (fit : fitB p q burst (t : Int) L = true) : CleanL p q burst (L ++ [t]) := by
  rw [clean_iff hq] at c ⊢
  intro e a ha
  rw [many_snoc]
  have c0 := c e a ha
  by_cases h : a ≤ t ∧ t ≤ e
  · rw [if_pos h]
    have nn := Int.ediv_nonneg (a := ((e : Int) + 1 - (a : Int)) * p) (b := q) (Int.mul_nonneg (by omega) (Int.le_of_lt hp)) (Int.le_of_lt hq)
    have em : manyN L a e = L.reverse.countP fun t => decide (a ≤ t) := by
      unfold manyN
      rw [List.countP_reverse]
      apply List.countP_congr
      intro y hy
      have := lt y hy
      simp
      omega
    cases hc : manyN L a e with
    | zero => simp; omega
    | succ c' =>
      obtain ⟨y, h1, h2⟩ := desc_at (a := a) L.reverse (by rw [List.pairwise_reverse]; exact up.imp fun h => h) c' (by rw [← em, hc])
      have f := (fitR_iff L.reverse 1).mp fit c' y h1
      have hyt := lt y (List.mem_reverse.mp (List.mem_of_getElem? h1))
      have mo := div_mono (x := (t : Int) - (y : Int) + 1) (y := (e : Int) + 1 - (a : Int)) (p := p) (p' := p) hq (by omega) (by omega) (Int.le_of_lt hp) (Int.le_refl _)
      push_cast
      omega
  · rw [if_neg h]
    simpa using c0
theorem clean_more {p q burst p' burst' : Int} {L L' : List Nat} (hp : 0 < p) (hq : 0 < q) (hpp : p ≤ p') (hbb : burst ≤ burst') (c : CleanL p q burst L) (sub : ∀ a e, manyN L' a e ≤ manyN L a e) : CleanL p' q burst' L' := by
  rw [clean_iff hq] at c ⊢
  intro e a ha
  have c0 := c e a ha
  have s := sub a e
  have mo := div_mono (x := (e : Int) + 1 - (a : Int)) (y := (e : Int) + 1 - (a : Int)) (p := p) (p' := p') hq (by omega) (Int.le_refl _) (Int.le_of_lt hp) hpp
  omega
theorem clean_sum {p s q b1 b2 : Int} {L1 L2 L : List Nat} (hq : 0 < q) (c1 : CleanL p q b1 L1) (c2 : CleanL s q b2 L2) (sum : ∀ a e, manyN L a e = manyN L1 a e + manyN L2 a e) : CleanL (p + s) q (b1 + b2) L := by
  rw [clean_iff hq] at c1 c2 ⊢
  intro e a ha
  have d1 := c1 e a ha
  have d2 := c2 e a ha
  have s0 := sum a e
  have ad := (ediv_add_le (a := ((e : Int) + 1 - (a : Int)) * p) (b := ((e : Int) + 1 - (a : Int)) * s) hq).1
  rw [← Int.mul_add] at ad
  omega
theorem many_later (L : List Nat) (B a e : Nat) : manyN (L.map (· + B)) a e = if B ≤ e then manyN L (a - B) (e - B) else 0 := by
  unfold manyN
  rw [List.countP_map]
  by_cases h : B ≤ e
  · rw [if_pos h]
    apply List.countP_congr
    intro y _
    simp
    omega
  · rw [if_neg h, List.countP_eq_zero]
    intro y _
    simp
    omega
theorem clean_later {p q burst : Int} {L : List Nat} (B : Nat) (hp : 0 < p) (hq : 0 < q) (hb : 0 ≤ burst) (c : CleanL p q burst L) : CleanL p q burst (L.map (· + B)) := by
  rw [clean_iff hq] at c ⊢
  intro e a ha
  rw [many_later]
  by_cases h : B ≤ e
  · rw [if_pos h]
    have c0 := c (e - B) (a - B) (by omega)
    have mo := div_mono (x := ((e - B : Nat) : Int) + 1 - ((a - B : Nat) : Int)) (y := (e : Int) + 1 - (a : Int)) (p := p) (p' := p) hq (by omega) (by omega) (Int.le_of_lt hp) (Int.le_refl _)
    omega
  · rw [if_neg h]
    have := Int.ediv_nonneg (a := ((e : Int) + 1 - (a : Int)) * p) (b := q) (Int.mul_nonneg (by omega) (Int.le_of_lt hp)) (Int.le_of_lt hq)
    simp
    omega
/-! ### two rows in one -/
/-- beat by beat, those of the first row ahead -/
def mergeR (one other : List PutN) : Nat → List PutN
  | 0 => []
  | n + 1 => mergeR one other n ++ (one.filter (fun r => decide (r.1 = n)) ++ other.filter fun r => decide (r.1 = n))
theorem mergeR_lt (one other : List PutN) : ∀ n, ∀ r ∈ mergeR one other n, r.1 < n
  | 0, r, hr => by cases hr
  | n + 1, r, hr => by
    rcases List.mem_append.mp hr with hr | hr
    · have := mergeR_lt one other n r hr
      omega
    · rcases List.mem_append.mp hr with hr | hr
      · have := of_decide_eq_true (List.mem_filter.mp hr).2
        omega
      · have := of_decide_eq_true (List.mem_filter.mp hr).2
        omega
theorem mergeR_up (one other : List PutN) : ∀ n, (mergeR one other n).Pairwise fun a b => a.1 ≤ b.1
  | 0 => .nil
  | n + 1 => by
    have at_ : ∀ r ∈ one.filter (fun r => decide (r.1 = n)) ++ other.filter (fun r => decide (r.1 = n)), r.1 = n := fun r hr => by
      rcases List.mem_append.mp hr with hr | hr
      · exact of_decide_eq_true (List.mem_filter.mp hr).2
      · exact of_decide_eq_true (List.mem_filter.mp hr).2
    rw [mergeR, List.pairwise_append]
    refine ⟨mergeR_up one other n, ?_, fun a ha b hb => ?_⟩
    · rw [List.pairwise_iff_forall_sublist]
      intro a b hab
      have ha := at_ a (hab.subset (by simp))
      have hb := at_ b (hab.subset (by simp))
      omega
    · have := mergeR_lt one other n a ha
      have := at_ b hb
      omega
theorem mergeR_at (one other : List PutN) (b : Nat) : ∀ n, (mergeR one other n).filter (fun r => decide (r.1 = b)) = if b < n then one.filter (fun r => decide (r.1 = b)) ++ other.filter (fun r => decide (r.1 = b)) else []
  | 0 => by simp [mergeR]
  | n + 1 => by
    rw [mergeR, List.filter_append, mergeR_at one other b n, List.filter_append, List.filter_filter, List.filter_filter]
    by_cases c : b = n
    · subst c
      rw [if_neg (by omega), if_pos (by omega)]
      simp
    · have e : ∀ l : List PutN, l.filter (fun r => decide (r.1 = b) && decide (r.1 = n)) = [] := fun l => by
        rw [List.filter_eq_nil_iff]
        intro r _
        simp
        omega
      rw [e, e]
      by_cases c2 : b < n
      · rw [if_pos c2, if_pos (by omega)]; simp
      · rw [if_neg c2, if_neg (by omega)]; simp
theorem merge_is {one other : List PutN} {n : Nat} (h : ∀ r ∈ one ++ other, r.1 < n) : mergeR one other n = (one ++ other).mergeSort fun a b => decide (a.1 ≤ b.1) := by
  refine PySem.W.sort_unique (le := fun a b : PutN => decide (a.1 ≤ b.1)) ⟨fun a b c h1 h2 => decide_eq_true (Nat.le_trans (of_decide_eq_true h1) (of_decide_eq_true h2)), fun a b => ?_⟩ ?_ fun c => ?_
  · rcases Nat.le_total a.1 b.1 with z | z <;> simp [z]
  · exact (mergeR_up one other n).imp fun h => decide_eq_true h
  · have e : ∀ l : List PutN, l.filter (PySem.W.sameRank (fun a b : PutN => decide (a.1 ≤ b.1)) c) = l.filter fun r => decide (r.1 = c.1) := fun l => by
      apply List.filter_congr
      intro r _
      unfold PySem.W.sameRank
      by_cases h1 : r.1 = c.1
      · simp [h1]
      · by_cases h2 : r.1 ≤ c.1
        · have h3 : ¬ c.1 ≤ r.1 := by omega
          simp [h1, h2, h3]
        · simp [h1, h2]
    rw [e, e, mergeR_at, List.filter_append]
    by_cases hc : c.1 < n
    · rw [if_pos hc]
    · rw [if_neg hc]
      have e2 : ∀ l : List PutN, (∀ r ∈ l, r.1 < n) → l.filter (fun r => decide (r.1 = c.1)) = [] := fun l hl => by
        rw [List.filter_eq_nil_iff]
        intro r hr
        have := hl r hr
        simp
        omega
      rw [e2 one fun r hr => h r (List.mem_append_left _ hr), e2 other fun r hr => h r (List.mem_append_right _ hr)]
      rfl
theorem keyAt_put (r : PutN) : keyAt 0 (putD r) = (r.1 : Int) := rfl
theorem keyed_put (r : PutN) : keyed 0 (putD r) = true := rfl
theorem srt_put (row : List PutN) : srtK 0 (row.map putD) = (row.mergeSort fun a b => decide (a.1 ≤ b.1)).map putD := by
  unfold srtK
  refine (PySem.W.sort_maps putD (r := fun a b : PutN => decide (a.1 ≤ b.1)) fun a _ b _ => ?_).symm
  rw [keyAt_put, keyAt_put]
  simp
theorem many_perm {L L' : List Nat} (h : L.Perm L') (a e : Nat) : manyN L a e = manyN L' a e := h.countP_eq _
theorem bts_perm {row row' : List PutN} (h : row.Perm row') (x : Str) : (bts row x).Perm (bts row' x) := (h.filter _).map _
theorem bts_app (row row' : List PutN) (x : Str) : bts (row ++ row') x = bts row x ++ bts row' x := by
  unfold bts
  rw [List.filter_append, List.map_append]
theorem many_merge {one other : List PutN} {n : Nat} (h : ∀ r ∈ one ++ other, r.1 < n) (x : Str) (a e : Nat) : manyN (bts (mergeR one other n) x) a e = manyN (bts one x) a e + manyN (bts other x) a e := by
  rw [merge_is h, many_perm (bts_perm (List.mergeSort_perm _ _) x), bts_app]
  exact List.countP_append
theorem many_thin {row row' : List PutN} (h : row'.Sublist row) (x : Str) (a e : Nat) : manyN (bts row' x) a e ≤ manyN (bts row x) a e :=
  ((h.filter _).map _).countP_le
theorem bts_later (row : List PutN) (B : Nat) (x : Str) : bts (row.map fun r => (r.1 + B, r.2)) x = (bts row x).map (· + B) := by
  unfold bts
  rw [List.filter_map, List.map_map, List.map_map]
  rfl
end Mi

/-! # How many letters more a beat takes -/
namespace Mi
open PySem
variable {p q burst : Int}
theorem sumN_rep (L : List Nat) (b m : Nat) : ∀ t, t ≤ b → sumN p q (L ++ List.replicate m b) t = sumN p q L t
  | 0, _ => rfl
  | t + 1, h => by
    rw [sumN, sumN, sumN_rep L b m t (by omega)]
    rw [List.count_append, List.count_replicate]
    have : (b == t) = false := by simp; omega
    rw [this]
    simp
/-- the told sum, so many letters more -/
theorem top_rep (L : List Nat) (b m : Nat) : topN p q (L ++ List.replicate m b) b = topN p q L b + q * (m : Int) := by
  unfold topN
  rw [sumN_rep L b m b (Nat.le_refl _), List.count_append, List.count_replicate]
  simp
  rw [Int.mul_add]
  omega
theorem top_fit (hp : 0 < p) (hq : 0 < q) (hb : 1 ≤ burst) {L : List Nat} {b : Nat} (up : L.Pairwise (· ≤ ·)) (lt : ∀ y ∈ L, y ≤ b) : fitB p q burst (b : Int) L = true ↔ topN p q L b + q ≤ burst * q := by
  have e : topN p q L b + q = topN p q (L ++ [b]) b := by
    have := top_rep (p := p) (q := q) L b 1
    rw [show List.replicate 1 b = [b] from rfl] at this
    rw [this]
    simp
  rw [e]
  constructor
  · intro h
    rw [← Int.not_lt]
    intro z
    obtain ⟨a, ha, ov⟩ := top_over.mp z
    unfold overN at ov
    rw [← over_iff hq ha, many_snoc] at ov
    rw [if_pos ⟨ha, Nat.le_refl _⟩] at ov
    have hm : manyN L a b = L.reverse.countP fun t => decide (a ≤ t) := by
      unfold manyN
      rw [List.countP_reverse]
      refine List.countP_congr fun t ht => ?_
      simp [lt t ht]
    cases c : manyN L a b with
    | zero =>
      rw [c] at ov
      have := Int.ediv_nonneg (a := ((b : Int) + 1 - a) * p) (b := q) (Int.mul_nonneg (by omega) (by omega)) (by omega)
      omega
    | succ i =>
      have dc : L.reverse.Pairwise (· ≥ ·) := by rw [List.pairwise_reverse]; exact up
      obtain ⟨y, g1, g2⟩ := desc_at (a := a) L.reverse dc i (by rw [← hm, c])
      have f := (fitR_iff L.reverse 1).mp h i y g1
      have yb : y ≤ b := lt y (List.mem_reverse.mp (List.mem_of_getElem? g1))
      have mono := div_mono (x := (b : Int) - y + 1) (y := (b : Int) + 1 - a) (p := p) (p' := p) hq (by omega) (by omega) (by omega) (Int.le_refl _)
      rw [c] at ov
      omega
  · intro h
    refine (fitR_iff L.reverse 1).mpr fun i t ht => ?_
    have tb : t ≤ b := lt t (List.mem_reverse.mp (List.mem_of_getElem? ht))
    have no : ¬ overN p q burst (L ++ [b]) t b := fun z => by
      have := (top_over (p := p) (q := q) (burst := burst) (L := L ++ [b]) (e := b)).mpr ⟨t, tb, z⟩
      omega
    unfold overN at no
    rw [← over_iff hq tb, many_snoc, if_pos ⟨tb, Nat.le_refl _⟩] at no
    have dc : L.reverse.Pairwise (· ≥ ·) := by rw [List.pairwise_reverse]; exact up
    have hm : manyN L t b = L.reverse.countP fun y => decide (t ≤ y) := by
      unfold manyN
      rw [List.countP_reverse]
      refine List.countP_congr fun y hy => ?_
      simp [lt y hy]
    have ge : i + 1 ≤ L.reverse.countP fun y => decide (t ≤ y) := by
      have il := (List.getElem?_eq_some_iff.mp ht).1
      have e1 : (L.reverse.take (i + 1)).countP (fun y => decide (t ≤ y)) = (L.reverse.take (i + 1)).length := by
        refine List.countP_eq_length.mpr fun y hy => ?_
        obtain ⟨j, hj, e⟩ := List.mem_iff_getElem.mp hy
        rw [List.length_take] at hj
        rw [List.getElem_take] at e
        have et := (List.getElem?_eq_some_iff.mp ht).2
        by_cases c : j = i
        · subst c
          rw [← e, et]
          simp
        · have := List.pairwise_iff_getElem.mp dc j i (by omega) il (by omega)
          rw [e, et] at this
          simpa using this
      have := List.Sublist.countP_le (p := fun y => decide (t ≤ y)) (List.take_sublist (i + 1) L.reverse)
      rw [e1, List.length_take] at this
      omega
    have eq1 : ((b : Int) - t + 1) = ((b : Int) + 1 - t) := by omega
    rw [eq1]
    rw [← hm] at ge
    omega
theorem bts_rep (row : List PutN) (w : List Str) (b m : Nat) (x : Str) : bts (row ++ List.replicate m (b, w)) x = bts row x ++ if x ∈ w then List.replicate m b else [] := by
  rw [bts_app]
  congr 1
  unfold bts
  rw [List.filter_replicate]
  by_cases c : x ∈ w <;> simp [c]
/-- so many letters more at a beat, no more -/
structure RoomIs (p q burst : Int) (row : List PutN) (w : List Str) (b R : Nat) : Prop where
  iff : ∀ m : Nat, m < R ↔ ∀ x ∈ w, topN p q (bts row x) b + q * (m : Int) + q ≤ burst * q
  few : R ≤ 50
theorem room_fit (hp : 0 < p) (hq : 0 < q) (hb : 1 ≤ burst) {row : List PutN} {b : Nat} (up : (row.map (·.1)).Pairwise (· ≤ ·)) (lt : ∀ r ∈ row, r.1 ≤ b) (x : Str) (m : Nat) :
    fitB p q burst (b : Int) (bts row x ++ List.replicate m b) = true ↔ topN p q (bts row x) b + q * (m : Int) + q ≤ burst * q := by
  have l1 : ∀ y ∈ bts row x, y ≤ b := fun y hy => by
    obtain ⟨w, h, _⟩ := mem_bts.mp hy
    exact lt _ h
  rw [top_fit hp hq hb, top_rep]
  · rw [List.pairwise_append]
    refine ⟨bts_up up x, List.pairwise_replicate.mpr (.inr (Nat.le_refl _)), fun y hy z hz => ?_⟩
    rw [List.eq_of_mem_replicate hz]
    exact l1 y hy
  · intro y hy
    rcases List.mem_append.mp hy with hy | hy
    · exact l1 y hy
    · rw [List.eq_of_mem_replicate hy]
      exact Nat.le_refl _
theorem top_clean (hq : 0 < q) {L : List Nat} {b : Nat} (c : CleanL p q burst L) : topN p q L b ≤ burst * q := by
  rw [← Int.not_lt]
  intro z
  obtain ⟨a, ha, ov⟩ := top_over.mp z
  exact c b a ha ov
theorem room_min (hp : 0 < p) (hpq : p < q) (hb : 1 ≤ burst) (hb2 : burst ≤ 50) {row : List PutN} {w : List Str} {b : Nat} {M : Int} (c : ∀ x ∈ w, CleanL p q burst (bts row x)) (h1 : ∃ x ∈ w, M = (burst * q - (topN p q (bts row x) b + q)) / q) (h2 : ∀ x ∈ w, M ≤ (burst * q - (topN p q (bts row x) b + q)) / q) :
    ∃ R : Nat, (R : Int) = M + 1 ∧ RoomIs p q burst row w b R := by
  obtain ⟨x, hx, e⟩ := h1
  have q0 : 0 < q := by omega
  have lo : -1 ≤ M := by
    rw [e]
    refine Int.le_ediv_of_mul_le q0 ?_
    have := top_clean q0 (b := b) (c x hx)
    omega
  have nn : -p ≤ topN p q (bts row x) b := by
    unfold topN
    have := sumN_nn (p := p) (q := q) (L := bts row x) b
    have := Int.mul_nonneg (Int.le_of_lt q0) (Int.natCast_nonneg ((bts row x).count b))
    omega
  have hi : M < burst := by
    rw [e]
    refine Int.ediv_lt_of_lt_mul q0 ?_
    omega
  refine ⟨(M + 1).toNat, by omega, fun m => ?_, by omega⟩
  have key : ∀ y, (m : Int) ≤ (burst * q - (topN p q (bts row y) b + q)) / q ↔ topN p q (bts row y) b + q * (m : Int) + q ≤ burst * q := fun y => by
    rw [Int.le_ediv_iff_mul_le q0, Int.mul_comm]
    omega
  constructor
  · intro h y hy
    exact (key y).mp (by have := h2 y hy; omega)
  · intro h
    have := (key x).mpr (h x hx)
    rw [← e] at this
    omega
theorem room_clean (hp : 0 < p) (hq : 0 < q) (hb : 1 ≤ burst) {row : List PutN} {w : List Str} {b R : Nat} (up : (row.map (·.1)).Pairwise (· ≤ ·)) (lt : ∀ r ∈ row, r.1 ≤ b) (h : RoomIs p q burst row w b R) (x : Str) (c : CleanL p q burst (bts row x)) :
    ∀ m, m ≤ R → CleanL p q burst (bts (row ++ List.replicate m (b, w)) x)
  | 0, _ => by rw [List.replicate_zero, List.append_nil]; exact c
  | m + 1, hm => by
    have ih := room_clean hp hq hb up lt h x c m (by omega)
    rw [bts_rep] at ih ⊢
    by_cases cx : x ∈ w
    · rw [if_pos cx] at ih ⊢
      rw [List.replicate_succ', ← List.append_assoc]
      have l1 : ∀ y ∈ bts row x, y ≤ b := fun y hy => by
        obtain ⟨w, h, _⟩ := mem_bts.mp hy
        exact lt _ h
      refine clean_put hp hq hb ih ?_ ?_ ((room_fit hp hq hb up lt x m).mpr ((h.iff m).mp (by omega) x cx))
      · rw [List.pairwise_append]
        refine ⟨bts_up up x, List.pairwise_replicate.mpr (.inr (Nat.le_refl _)), fun y hy z hz => ?_⟩
        rw [List.eq_of_mem_replicate hz]
        exact l1 y hy
      · intro y hy
        rcases List.mem_append.mp hy with hy | hy
        · exact l1 y hy
        · rw [List.eq_of_mem_replicate hy]
          exact Nat.le_refl _
    · rw [if_neg cx] at ih ⊢
      exact ih
theorem room_over (hq : 0 < q) {row : List PutN} {w : List Str} {b R : Nat} (h : RoomIs p q burst row w b R) : ∃ x ∈ w, ¬ CleanL p q burst (bts (row ++ List.replicate (R + 1) (b, w)) x) := by
  have z := mt (h.iff R).mpr (by omega)
  have : ∃ x ∈ w, ¬ (topN p q (bts row x) b + q * (R : Int) + q ≤ burst * q) := by
    apply Classical.byContradiction
    intro n
    exact z fun x hx => Classical.byContradiction fun m => n ⟨x, hx, m⟩
  obtain ⟨x, hx, z⟩ := this
  refine ⟨x, hx, fun c => z ?_⟩
  have := top_clean hq (b := b) c
  rw [bts_rep, if_pos hx, top_rep] at this
  rw [Int.natCast_add, Int.mul_add] at this
  omega
/-- the last of the told sums -/
theorem sums_last (hp : 0 ≤ p) {row : List PutN} {w : List Str} {b : Nat} (up : (row.map (·.1)).Pairwise (· ≤ ·)) (lt : ∀ r ∈ row, r.1 ≤ b) (nd : ∀ r ∈ row ++ [(b, w)], r.2.Nodup) :
    ∃ (init : List (Nat × Told)) (t : Told), sumsL p q (row ++ [(b, w)]) = init ++ [(b, t)] ∧ ∀ x ∈ w, t.lookup x = some (topN p q (bts row x) b + q) := by
  have up' : ((row ++ [(b, w)]).map (·.1)).Pairwise (· ≤ ·) := by
    rw [List.map_append, List.pairwise_append]
    refine ⟨up, by simp, fun y hy z hz => ?_⟩
    obtain ⟨r, hr, rfl⟩ := List.mem_map.mp hy
    rw [List.mem_singleton.mp hz]
    exact lt r hr
  have G := gOf_is up' nd
  have tb := told_beats (p := p) (q := q) hp up' nd
  have mb : b ∈ (sumsL p q (row ++ [(b, w)])).map (·.1) := by
    rw [tb]
    exact (G.mem b).mpr (by simp)
  have le : ∀ z ∈ sumsL p q (row ++ [(b, w)]), z.1 ≤ b := fun z hz => by
    have : z.1 ∈ (gOf (row ++ [(b, w)])).map (·.1) := by rw [← tb]; exact List.mem_map_of_mem (f := (·.1)) hz
    have := (G.mem z.1).mp this
    rw [List.map_append, List.mem_append] at this
    rcases this with h | h
    · obtain ⟨r, hr, e⟩ := List.mem_map.mp h
      rw [← e]
      exact lt r hr
    · rw [List.mem_singleton.mp h]
      exact Nat.le_refl _
  have srt : ((sumsL p q (row ++ [(b, w)])).map (·.1)).Pairwise (· < ·) := by rw [tb]; exact G.up
  have tl := fun t (m : (b, t) ∈ sumsL p q (row ++ [(b, w)])) x => told_iff (q := q) hp up' nd m x
  generalize sumsL p q (row ++ [(b, w)]) = L at *
  have ne : L ≠ [] := by rintro rfl; cases mb
  obtain ⟨init, z, rfl⟩ : ∃ init z, L = init ++ [z] := ⟨L.dropLast, L.getLast ne, (List.dropLast_concat_getLast ne).symm⟩
  have zb : z.1 = b := by
    rw [List.map_append, List.mem_append] at mb
    rcases mb with h | h
    · rw [List.map_append, List.pairwise_append] at srt
      have z1 := srt.2.2 b h z.1 (by simp)
      have z2 := le z (by simp)
      omega
    · exact (List.mem_singleton.mp h).symm
  obtain ⟨z1, t⟩ := z
  cases (show z1 = b from zb)
  refine ⟨init, t, rfl, fun x hx => ?_⟩
  rw [tl t (by simp) x]
  rw [bts_snoc, if_pos hx]
  rw [if_pos (by simp)]
  have := top_rep (p := p) (q := q) (bts row x) b 1
  rw [show List.replicate 1 b = [b] from rfl] at this
  rw [this]
  simp
end Mi

/-! # The table of roadqueues_k01_lines_of_no_web (printed by mk.py) -/
namespace K01
open PySem PySem.Spec PyProof.Rows L2 Mi
abbrev prog : PySem.Program := PySem.Challenge.pw_roadqueues_k01_lines_of_no_web
def top (i : Nat) : Stmt := prog.main.body.getD i (.Pass ⟨0, 0, 0, 0⟩)
def g_BLANK : Mi.D := (.str " ")
def g_FEED : Mi.D := (.str "\n")
def g_LETTERS : Mi.D := (.str "abcdefghijklmnopqrstuvwxyz")
def g_LINE_WORDS : Mi.D := (.int 4)
def g_MOST_LETTERS : Mi.D := (.int 8)
def g_MOST_ROADS : Mi.D := (.int 60)
def g_ROAD : Mi.D := (.str "road")
def mem (s : Stmt) (j : Nat) : Stmt := (clsBody s).getD j (.Pass ⟨0, 0, 0, 0⟩)
abbrev f_is_name : Nat := 0
abbrev f_words_in : Nat := 1
abbrev f_lines_in : Nat := 2
abbrev f_road_in : Nat := 3
abbrev f_read_web : Nat := 4
abbrev f_Web___init__ : Nat := 5
abbrev f__law_pot : Nat := 6
abbrev f__law_take : Nat := 7
abbrev f__law_of : Nat := 8
abbrev f__law_cells : Nat := 9
abbrev f__law_names : Nat := 10
abbrev f__law_ends : Nat := 11
abbrev f__law_web : Nat := 12
abbrev f__law_web_text : Nat := 13
abbrev f__law_heard : Nat := 14
abbrev f__law_bad_rows : Nat := 15
abbrev f__law_spoilt : Nat := 16
abbrev f__law_right : Nat := 17
abbrev f_law : Nat := 18
abbrev m1__law_right : Nat := 19
abbrev m2__law_right : Nat := 20
abbrev m3__law_right : Nat := 21
def la1__law_right : E := (.mk f_Web___init__ (.cons (.var 0) .nil))
def la2__law_right : E := (.mk f_Web___init__ (.cons (.var 0) .nil))
def la3__law_right : E := (.mk f_Web___init__ (.cons (.m .join (.con (.str "\n")) (.cons (.var 0) .nil)) .nil))
def e1_is_name : E := (.cmp .inn (.var 1) (.glo g_LETTERS))
def b_is_name : Ss :=
    (.cons (.iff (.or (.cons (.not (.b1 (.isi .str) (.var 0))) (.cons (.not (.chn .le .le (.con (.int 1)) (.b1 .len (.var 0)) (.glo g_MOST_LETTERS))) .nil))) (.cons (.ret (.con (.bl false)))
    .nil) .nil)
    (.cons (.ret (.bq .all (.lc e1_is_name (.nm 1) (.var 0) [1])))
    .nil))
def d_is_name : FDef := ⟨1, 2, b_is_name, none⟩
def n_is_name : FN := ⟨⟨("is_name", none), "is_name", "is_name", defArgs (top 8), defBody (top 8), defScope (top 8), [], []⟩, ["value", "letter"], ["value"], d_is_name, [], none, false, false⟩
def b_words_in : Ss :=
    (.cons (.ret (.m .split (.var 0) (.cons (.glo g_BLANK) .nil)))
    .nil)
def d_words_in : FDef := ⟨1, 1, b_words_in, none⟩
def n_words_in : FN := ⟨⟨("words_in", none), "words_in", "words_in", defArgs (top 9), defBody (top 9), defScope (top 9), [], []⟩, ["line"], ["line"], d_words_in, [], none, false, false⟩
def b_lines_in : Ss :=
    (.cons (.ret (.m .split (.var 0) (.cons (.glo g_FEED) .nil)))
    .nil)
def d_lines_in : FDef := ⟨1, 1, b_lines_in, none⟩
def n_lines_in : FN := ⟨⟨("lines_in", none), "lines_in", "lines_in", defArgs (top 10), defBody (top 10), defScope (top 10), [], []⟩, ["text"], ["text"], d_lines_in, [], none, false, false⟩
def e1_road_in : E := (.fn f_is_name (.cons (.var 2) .nil))
def b_road_in : Ss :=
    (.cons (.asg (.nm 1) (.fn f_words_in (.cons (.var 0) .nil)))
    (.cons (.iff (.or (.cons (.cmp .ne (.b1 .len (.var 1)) (.glo g_LINE_WORDS)) (.cons (.cmp .ne (.idx (.var 1) (.con (.int 0))) (.glo g_ROAD)) (.cons (.not (.bq .all (.lc e1_road_in (.nm 2) (.slc (.var 1) (.con (.int 1)) (.con .non)) [2]))) .nil)))) (.cons (.ret (.con .non))
    .nil) .nil)
    (.cons (.ret (.ite (.cmp .ne (.idx (.var 1) (.con (.int 2))) (.idx (.var 1) (.con (.int 3)))) (.bq .tuple (.slc (.var 1) (.con (.int 1)) (.con .non))) (.con .non)))
    .nil)))
def d_road_in : FDef := ⟨1, 3, b_road_in, none⟩
def n_road_in : FN := ⟨⟨("road_in", none), "road_in", "road_in", defArgs (top 15), defBody (top 15), defScope (top 15), [], []⟩, ["line", "words", "word"], ["line"], d_road_in, [], none, false, false⟩
def l1_read_web : Ss :=
    (.cons (.asg (.nm 4) (.ite (.cmp .lt (.var 2) (.glo g_MOST_ROADS)) (.fn f_road_in (.cons (.var 3) .nil)) (.con .non)))
    (.cons (.iff (.or (.cons (.cmp .isN (.var 4) (.con .non)) (.cons (.cmp .inn (.idx (.var 4) (.con (.int 0))) (.var 1)) .nil))) (.cons (.rais "BadWeb" (.bin .add (.var 2) (.con (.int 1))))
    .nil) .nil)
    (.cons (.sto (.var 1) (.idx (.var 4) (.con (.int 0))) (.slc (.var 4) (.con (.int 1)) (.con .non)))
    .nil)))
def b_read_web : Ss :=
    (.cons (.iff (.not (.b1 (.isi .str) (.var 0))) (.cons (.rais "BadWeb" (.con (.int 0)))
    .nil) .nil)
    (.cons (.asg (.nm 1) .dnw)
    (.cons (.fr (.tp [2, 3]) (.enu (.fn f_lines_in (.cons (.var 0) .nil))) l1_read_web)
    (.cons (.ret (.var 1))
    .nil))))
def d_read_web : FDef := ⟨1, 5, b_read_web, none⟩
def n_read_web : FN := ⟨⟨("read_web", none), "read_web", "read_web", defArgs (top 16), defBody (top 16), defScope (top 16), [], []⟩, ["text", "found", "at", "line", "road"], ["text"], d_read_web, [], none, false, false⟩
def l1_Web___init__ : Ss :=
    (.cons (.expr (.dsd (.fld (.var 0) "Web" "own_out") (.var 5) (.lst .nil)))
    (.cons (.expr (.dsd (.fld (.var 0) "Web" "own_in") (.var 5) (.lst .nil)))
    .nil))
def l2_Web___init__ : Ss :=
    (.cons (.fr (.nm 5) (.tup (.cons (.var 3) (.cons (.var 4) .nil))) l1_Web___init__)
    (.cons (.expr (.m .append (.idx (.fld (.var 0) "Web" "own_out") (.var 3)) (.cons (.var 2) .nil)))
    (.cons (.expr (.m .append (.idx (.fld (.var 0) "Web" "own_in") (.var 4)) (.cons (.var 2) .nil)))
    .nil)))
def b_Web___init__ : Ss :=
    (.cons (.pf2 "Web" (.var 0) "own_ends" (.var 0) "own_text" (.cons (.fn f_read_web (.cons (.var 1) .nil)) (.cons (.var 1) .nil)))
    (.cons (.pf2 "Web" (.var 0) "own_out" (.var 0) "own_in" (.cons .dnw (.cons .dnw .nil)))
    (.cons (.fr (.tn [.a 2, .b [3, 4]]) (.itm .items (.fld (.var 0) "Web" "own_ends")) l2_Web___init__)
    .nil)))
def d_Web___init__ : FDef := ⟨2, 6, b_Web___init__, some "Web"⟩
def n_Web___init__ : FN := ⟨⟨("Web", some ("__init__" : Str)), "__init__", "Web.__init__", defArgs (mem (top 17) 0), defBody (mem (top 17) 0), defScope (mem (top 17) 0), [], []⟩, ["self", "text", "name", "begin", "end", "place"], ["self", "text"], d_Web___init__, [], none, false, false⟩
def b__law_pot : Ss :=
    potB 1047 474 73091 8075 473
def d__law_pot : FDef := ⟨2, 5, b__law_pot, none⟩
def n__law_pot : FN := ⟨⟨("_law_pot", none), "_law_pot", "_law_pot", defArgs (top 19), defBody (top 19), defScope (top 19), [], []⟩, ["script", "place", "cell", "own", "small"], ["script", "place"], d__law_pot, [], none, false, false⟩
def b__law_take : Ss :=
    takeB 98257 444 10011 93 173
def d__law_take : FDef := ⟨2, 5, b__law_take, none⟩
def n__law_take : FN := ⟨⟨("_law_take", none), "_law_take", "_law_take", defArgs (top 20), defBody (top 20), defScope (top 20), [], []⟩, ["pot", "upto", "digit", "prime", "blend"], ["pot", "upto"], d__law_take, [], none, false, false⟩
def b__law_of : Ss :=
    ofB f__law_take
def d__law_of : FDef := ⟨2, 2, b__law_of, none⟩
def n__law_of : FN := ⟨⟨("_law_of", none), "_law_of", "_law_of", defArgs (top 21), defBody (top 21), defScope (top 21), [], []⟩, ["pot", "some"], ["pot", "some"], d__law_of, [], none, false, false⟩
def b__law_cells : Ss :=
    cellsB
def d__law_cells : FDef := ⟨2, 2, b__law_cells, none⟩
def n__law_cells : FN := ⟨⟨("_law_cells", none), "_law_cells", "_law_cells", defArgs (top 22), defBody (top 22), defScope (top 22), [], []⟩, ["script", "most"], ["script", "most"], d__law_cells, [], none, false, false⟩
def e1__law_names : E := (.var 8)
def e2__law_names : E := (.cmp .nin (.var 8) (.var 2))
def e3__law_names : E := (.bin .add (.var 6) (.slc (.var 5) (.con (.int 1)) (.con .non)))
def e4__law_names : E := (.fn f__law_of (.cons (.var 0) (.cons (.var 3) .nil)))
def l1__law_names : Ss :=
    (.cons (.asg (.nm 5) (.m .join (.con (.str "")) (.cons (.lc e4__law_names (.nm 6) (.rng (.cons (.bin .add (.con (.int 1)) (.fn f__law_of (.cons (.var 0) (.cons (.lst (.cons (.con (.int 0)) (.cons (.con (.int 0)) (.cons (.con (.int 0)) (.cons (.con (.int 1)) (.cons (.con (.int 2)) (.cons (.con (.int 7)) .nil))))))) .nil)))) .nil)) [6]) .nil)))
    (.cons (.iff (.cmp .eq (.fn f__law_take (.cons (.var 0) (.cons (.con (.int 11)) .nil))) (.con (.int 0))) (.cons (.asg (.nm 5) (.fn f__law_of (.cons (.var 0) (.cons (.lst (.cons (.con (.str "road")) (.cons (.con (.str "put")) (.cons (.con (.str "way")) (.cons (.con (.str "beat")) (.cons (.con (.str "eldest")) (.cons (.con (.str "home")) .nil))))))) .nil))))
    .nil) .nil)
    (.cons (.asg (.nm 7) (.lcf e1__law_names e2__law_names (.nm 8) (.bin .add (.lst (.cons (.var 5) .nil)) (.lc e3__law_names (.nm 6) (.var 3) [6])) [8]))
    (.cons (.expr (.m .append (.var 2) (.cons (.idx (.var 7) (.con (.int 0))) .nil)))
    .nil))))
def b__law_names : Ss :=
    (.cons (.par [2, 3] (.cons (.lst .nil) (.cons (.con (.str "abcdefghijklmnopqrstuvwxyz")) .nil)))
    (.cons (.fr (.nm 4) (.rng (.cons (.var 1) .nil)) l1__law_names)
    (.cons (.ret (.var 2))
    .nil)))
def d__law_names : FDef := ⟨2, 9, b__law_names, none⟩
def n__law_names : FN := ⟨⟨("_law_names", none), "_law_names", "_law_names", defArgs (top 23), defBody (top 23), defScope (top 23), [], []⟩, ["pot", "many", "found", "signs", "lap", "word", "sign", "some", "one"], ["pot", "many"], d__law_names, [], none, false, false⟩
def e1__law_ends : E := (.tup (.cons (.var 4) (.cons (.fn f__law_take (.cons (.var 0) (.cons (.var 4) .nil))) .nil)))
def e2__law_ends : E := (.tup (.cons (.var 4) (.cons (.bin .add (.var 4) (.con (.int 1))) .nil)))
def l1__law_ends : Ss :=
    (.cons (.asg (.nm 7) (.fn f__law_take (.cons (.var 0) (.cons (.var 1) .nil))))
    (.cons (.asg (.nm 8) (.bin .mod (.b1 .int (.bin .add (.bin .add (.var 7) (.con (.int 1))) (.fn f__law_take (.cons (.var 0) (.cons (.bin .sub (.var 1) (.con (.int 1))) .nil))))) (.var 1)))
    (.cons (.expr (.m .append (.var 5) (.cons (.ite (.cmp .eq (.var 2) (.con (.int 5))) (.tup (.cons (.b2 .min (.var 7) (.var 8)) (.cons (.b2 .max (.var 7) (.var 8)) .nil))) (.tup (.cons (.var 7) (.cons (.var 8) .nil)))) .nil)))
    .nil)))
def b__law_ends : Ss :=
    (.cons (.par [2, 3] (.cons (.fn f__law_take (.cons (.var 0) (.cons (.con (.int 7)) .nil))) (.cons (.lc e2__law_ends (.nm 4) (.rng (.cons (.bin .sub (.var 1) (.con (.int 1))) .nil)) [4]) .nil)))
    (.cons (.iff (.cmp .eq (.var 2) (.con (.int 0))) (.cons (.ret (.var 3))
    .nil) .nil)
    (.cons (.iff (.cmp .eq (.var 2) (.con (.int 1))) (.cons (.ret (.bin .add (.var 3) (.lst (.cons (.tup (.cons (.bin .sub (.var 1) (.con (.int 1))) (.cons (.con (.int 0)) .nil))) .nil))))
    .nil) .nil)
    (.cons (.iff (.cmp .eq (.var 2) (.con (.int 2))) (.cons (.ret (.lc e1__law_ends (.nm 4) (.rng (.cons (.con (.int 1)) (.cons (.var 1) .nil))) [4]))
    .nil) .nil)
    (.cons (.asg (.nm 5) (.ite (.cmp .lt (.var 2) (.con (.int 5))) (.slc (.var 3) (.con .non) (.fn f__law_take (.cons (.var 0) (.cons (.var 1) .nil)))) (.lst .nil)))
    (.cons (.fr (.nm 6) (.rng (.cons (.bin .add (.con (.int 1)) (.fn f__law_take (.cons (.var 0) (.cons (.bin .add (.var 1) (.con (.int 1))) .nil)))) .nil)) l1__law_ends)
    (.cons (.ret (.var 5))
    .nil)))))))
def d__law_ends : FDef := ⟨2, 9, b__law_ends, none⟩
def n__law_ends : FN := ⟨⟨("_law_ends", none), "_law_ends", "_law_ends", defArgs (top 24), defBody (top 24), defScope (top 24), [], []⟩, ["pot", "places", "way", "line", "at", "found", "lap", "one", "other"], ["pot", "places"], d__law_ends, [], none, false, false⟩
def e1__law_web : E := (.tup (.cons (.var 6) (.cons (.idx (.var 4) (.var 7)) (.cons (.idx (.var 4) (.var 8)) .nil))))
def b__law_web : Ss :=
    (.cons (.asg (.nm 2) (.bin .add (.con (.int 2)) (.fn f__law_take (.cons (.var 0) (.cons (.bin .sub (.var 1) (.con (.int 1))) .nil)))))
    (.cons (.asg (.nm 3) (.fn f__law_ends (.cons (.var 0) (.cons (.var 2) .nil))))
    (.cons (.par [4, 5] (.cons (.fn f__law_names (.cons (.var 0) (.cons (.var 2) .nil))) (.cons (.fn f__law_names (.cons (.var 0) (.cons (.b1 .len (.var 3)) .nil))) .nil)))
    (.cons (.ret (.lc e1__law_web (.tn [.a 6, .b [7, 8]]) (.zip (.var 5) (.var 3)) [6, 7, 8]))
    .nil))))
def d__law_web : FDef := ⟨2, 9, b__law_web, none⟩
def n__law_web : FN := ⟨⟨("_law_web", none), "_law_web", "_law_web", defArgs (top 25), defBody (top 25), defScope (top 25), [], []⟩, ["pot", "most", "places", "ends", "spots", "names", "name", "one", "other"], ["pot", "most"], d__law_web, [], none, false, false⟩
def e1__law_web_text : E := (.bin .add (.con (.str "road ")) (.m .join (.con (.str " ")) (.cons (.bq .list (.var 1)) .nil)))
def b__law_web_text : Ss :=
    (.cons (.ret (.m .join (.con (.str "\n")) (.cons (.lc e1__law_web_text (.nm 1) (.var 0) [1]) .nil)))
    .nil)
def d__law_web_text : FDef := ⟨1, 2, b__law_web_text, none⟩
def n__law_web_text : FN := ⟨⟨("_law_web_text", none), "_law_web_text", "_law_web_text", defArgs (top 26), defBody (top 26), defScope (top 26), [], []⟩, ["own", "road"], ["own"], d__law_web_text, [], none, false, false⟩
def b__law_heard : Ss :=
    (.cons (.tri (.cons (.expr (.cll 0))
    .nil) 1 (.cons (.ret (.var 1))
    .nil))
    (.cons (.ret (.con .non))
    .nil))
def d__law_heard : FDef := ⟨1, 2, b__law_heard, none⟩
def n__law_heard : FN := ⟨⟨("_law_heard", none), "_law_heard", "_law_heard", defArgs (top 27), defBody (top 27), defScope (top 27), [], []⟩, ["call", "caught"], ["call"], d__law_heard, [], none, true, false⟩
def b__law_bad_rows : Ss :=
    (.cons (.asg (.nm 0) (.lst (.cons (.con (.str "")) (.cons (.con (.str " ")) (.cons (.con (.str "road")) (.cons (.con (.str "road qqqqa")) (.cons (.con (.str "road qqqqa u")) (.cons (.con (.str "road qqqqa u u")) (.cons (.con (.str "road qqqqa u v w")) (.cons (.con (.str "roads qqqqa u v")) .nil))))))))))
    (.cons (.expr (.m .extend (.var 0) (.cons (.lst (.cons (.con (.str "road Q u v")) (.cons (.con (.str "road q1 u v")) (.cons (.con (.str "road ninesigns u v")) (.cons (.con (.str "road qqqqa U v")) (.cons (.con (.str "road qqqqa u ninesigns")) .nil)))))) .nil)))
    (.cons (.expr (.m .extend (.var 0) (.cons (.lst (.cons (.con (.str "road  qqqqa u v")) (.cons (.con (.str "road qqqqa  u v")) (.cons (.con (.str " road qqqqa u v")) (.cons (.con (.str "road qqqqa u v ")) (.cons (.con (.str "road qqqqa u-v")) .nil)))))) .nil)))
    (.cons (.expr (.m .extend (.var 0) (.cons (.lst (.cons (.con (.str "Road qqqqa u v")) (.cons (.con (.str "road qqqqa u 1")) (.cons (.con (.str "qqqqa u v")) .nil)))) .nil)))
    (.cons (.ret (.bin .add (.var 0) (.lst (.cons (.con (.str "road qqqqa u")) (.cons (.con (.str "road - u v")) (.cons (.con (.str "road qqqqa u v,")) (.cons (.con (.str "way qqqqa u v")) .nil)))))))
    .nil)))))
def d__law_bad_rows : FDef := ⟨0, 1, b__law_bad_rows, none⟩
def n__law_bad_rows : FN := ⟨⟨("_law_bad_rows", none), "_law_bad_rows", "_law_bad_rows", defArgs (top 28), defBody (top 28), defScope (top 28), [], []⟩, ["some"], [], d__law_bad_rows, [], none, false, false⟩
def e1__law_spoilt : E := (.bin .add (.bin .add (.con (.str "road ")) (.var 5)) (.con (.str " u v")))
def e2__law_spoilt : E := (.bin .add (.con (.str "qqqo")) (.var 10))
def e3__law_spoilt : E := (.bin .add (.con (.str "qqqq")) (.var 10))
def e4__law_spoilt : E := (.bin .add (.con (.str "qqqp")) (.var 10))
def e5__law_spoilt : E := (.idx (.var 7) (.con (.int 0)))
def b__law_spoilt : Ss :=
    (.cons (.par [2, 3] (.cons (.m .split (.fn f__law_web_text (.cons (.var 1) .nil)) (.cons (.con (.str "\n")) .nil)) (.cons (.fn f__law_take (.cons (.var 0) (.cons (.con (.int 5)) .nil))) .nil)))
    (.cons (.asg (.nm 4) (.fn f__law_take (.cons (.var 0) (.cons (.bin .add (.b1 .len (.var 2)) (.con (.int 1))) .nil))))
    (.cons (.iff (.cmp .eq (.var 3) (.con (.int 0))) (.cons (.asg (.nm 5) (.idx (.fn f__law_of (.cons (.var 0) (.cons (.var 1) .nil))) (.con (.int 0))))
    (.cons (.asg (.nm 6) (.m .index (.lc e5__law_spoilt (.nm 7) (.var 1) [7]) (.cons (.var 5) .nil)))
    (.cons (.asg (.nm 4) (.bin .add (.bin .add (.var 6) (.con (.int 1))) (.fn f__law_take (.cons (.var 0) (.cons (.bin .sub (.b1 .len (.var 2)) (.var 6)) .nil)))))
    (.cons (.ret (.tup (.cons (.bin .add (.bin .add (.slc (.var 2) (.con .non) (.var 4)) (.lst (.cons (.bin .add (.bin .add (.con (.str "road ")) (.var 5)) (.con (.str " qqqqu qqqqv"))) .nil))) (.slc (.var 2) (.var 4) (.con .non))) (.cons (.bin .add (.var 4) (.con (.int 1))) .nil))))
    .nil)))) .nil)
    (.cons (.iff (.cmp .eq (.var 3) (.con (.int 1))) (.cons (.asg (.nm 8) (.con (.str "abcdefghijklmnopqrstuvwxyz")))
    (.cons (.asg (.nm 9) (.bin .add (.lc e3__law_spoilt (.nm 10) (.var 8) [10]) (.lc e4__law_spoilt (.nm 10) (.var 8) [10])))
    (.cons (.expr (.m .extend (.var 9) (.cons (.lc e2__law_spoilt (.nm 10) (.var 8) [10]) .nil)))
    (.cons (.asg (.nm 11) (.lc e1__law_spoilt (.nm 5) (.var 9) [5]))
    (.cons (.ret (.tup (.cons (.bin .add (.var 2) (.slc (.var 11) (.con .non) (.bin .add (.bin .sub (.con (.int 61)) (.b1 .len (.var 2))) (.fn f__law_take (.cons (.var 0) (.cons (.con (.int 3)) .nil)))))) (.cons (.con (.int 61)) .nil))))
    .nil))))) .nil)
    (.cons (.ret (.tup (.cons (.bin .add (.bin .add (.slc (.var 2) (.con .non) (.var 4)) (.lst (.cons (.fn f__law_of (.cons (.var 0) (.cons (.fn f__law_bad_rows .nil) .nil))) .nil))) (.slc (.var 2) (.bin .add (.var 4) (.fn f__law_take (.cons (.var 0) (.cons (.con (.int 2)) .nil)))) (.con .non))) (.cons (.bin .add (.var 4) (.con (.int 1))) .nil))))
    .nil)))))
def d__law_spoilt : FDef := ⟨2, 12, b__law_spoilt, none⟩
def n__law_spoilt : FN := ⟨⟨("_law_spoilt", none), "_law_spoilt", "_law_spoilt", defArgs (top 29), defBody (top 29), defScope (top 29), [], []⟩, ["pot", "own", "rows", "way", "at", "name", "first", "road", "signs", "names", "sign", "more"], ["pot", "own"], d__law_spoilt, [], none, false, false⟩
def e1__law_right : E := (.exv (.var 8))
def e2__law_right : E := (.ise (.var 8) "BadWeb")
def e3__law_right : E := (.fnl f__law_heard m1__law_right [7] .nil)
def l1__law_right : Ss :=
    (.cons (.asg (.nm 4) (.fnl f__law_heard m2__law_right [5] .nil))
    (.cons (.iff (.or (.cons (.not (.ise (.var 4) "BadWeb")) (.cons (.cmp .ne (.b1 .repr (.exv (.var 4))) (.con (.str "0"))) .nil))) (.cons (.ret (.con (.bl false)))
    .nil) .nil)
    .nil))
def l2__law_right : Ss :=
    (.cons (.asg (.tp [2, 3]) (.fn f__law_spoilt (.cons (.var 0) (.cons (.fn f__law_web (.cons (.var 0) (.cons (.con (.int 6)) .nil))) .nil))))
    (.cons (.asg (.nm 4) (.fnl f__law_heard m3__law_right [2] .nil))
    (.cons (.iff (.or (.cons (.not (.ise (.var 4) "BadWeb")) (.cons (.cmp .ne (.b1 .repr (.exv (.var 4))) (.b1 .repr (.var 3))) .nil))) (.cons (.ret (.con (.bl false)))
    .nil) .nil)
    .nil)))
def b__law_right : Ss :=
    (.cons (.fr (.nm 1) (.rng (.cons (.con (.int 10)) .nil)) l2__law_right)
    (.cons (.fr (.nm 5) (.lst (.cons (.con .non) (.cons (.con (.int 0)) (.cons (.con (.bl true)) (.cons (.tup .nil) (.cons (.lst (.cons (.con (.str "road a u v")) .nil)) (.cons .dnw (.cons (.tup (.cons (.con (.str "road a u v")) .nil)) .nil)))))))) l1__law_right)
    (.cons (.asg (.nm 6) (.lc e3__law_right (.nm 7) (.lst (.cons (.con (.str "")) (.cons (.con (.str "\n")) (.cons (.con (.str "road a u v\n")) .nil)))) [7]))
    (.cons (.ret (.and (.cons (.bq .all (.lc e2__law_right (.nm 8) (.var 6) [8])) (.cons (.cmp .eq (.b1 .repr (.lc e1__law_right (.nm 8) (.var 6) [8])) (.con (.str "[1, 1, 2]"))) .nil))))
    .nil))))
def d__law_right : FDef := ⟨1, 9, b__law_right, none⟩
def n__law_right : FN := ⟨⟨("_law_right", none), "_law_right", "_law_right", defArgs (top 30), defBody (top 30), defScope (top 30), [], []⟩, ["pot", "lap", "lines", "due", "caught", "value", "told", "text", "one"], ["pot"], d__law_right, [], some ("_law_right" : Str), false, false⟩
def e1_law : E := (.fn f__law_right (.cons (.fn f__law_pot (.cons (.var 0) (.cons (.var 1) .nil))) .nil))
def b_law : Ss :=
    lawB f__law_right f__law_pot f__law_cells 3
def d_law : FDef := ⟨1, 2, b_law, none⟩
def n_law : FN := ⟨⟨("law", none), "law", "law", defArgs (top 31), defBody (top 31), defScope (top 31), [], []⟩, ["script", "place"], ["script"], d_law, [], none, false, false⟩
def tb : List FN := [n_is_name, n_words_in, n_lines_in, n_road_in, n_read_web, n_Web___init__, n__law_pot, n__law_take, n__law_of, n__law_cells, n__law_names, n__law_ends, n__law_web, n__law_web_text, n__law_heard, n__law_bad_rows, n__law_spoilt, n__law_right, n_law]
def frees : List Str := (["_law_are_crossed_refused", "_law_are_dues_refused", "_law_are_judged_told", "_law_are_rates_refused", "_law_are_rates_told", "_law_are_rows_told", "_law_calls", "_law_gone_back", "_law_is_blown_told", "_law_is_great_told", "_law_is_long_told", "_law_is_refused", "_law_noted", "_law_redone", "_law_told", "_law_undone", "abs", "all", "enumerate", "int", "isinstance", "joined", "len", "list", "max"] : List Str) ++ (["min", "range", "repr", "str", "sum", "tuple", "zip"] : List Str)
def tf : List He.Defn := [("_law_right", none)]
def glos : List (Str × Mi.D) := [("BLANK", g_BLANK), ("FEED", g_FEED), ("LETTERS", g_LETTERS), ("LINE_WORDS", g_LINE_WORDS), ("MOST_LETTERS", g_MOST_LETTERS), ("MOST_ROADS", g_MOST_ROADS), ("ROAD", g_ROAD)]
def flds : List (Str × Str) := [("Web", "own_ends"), ("Web", "own_in"), ("Web", "own_out"), ("Web", "own_text")]
def lams : List LamRow := [⟨["text"], la1__law_right⟩, ⟨["value"], la2__law_right⟩, ⟨["lines"], la3__law_right⟩]
def errs : List String := ["QueueError", "BadWeb"]
abbrev file : Str := prog.main.file
def keep (f : Nat) : Bool := decide (f = f__law_pot)
abbrev T : Tab := tabOf tb frees keep glos flds lams errs
theorem ok_is_name : n_is_name.Ok T := by
  refine ⟨rfl, rfl, ⟨?_, ?_, ?_, ?_, ?_, ?_, ?_⟩, ?_, rfl, rfl, ?_, ?_⟩
  · decide +kernel
  · decide +kernel
  · decide +kernel
  · decide +kernel
  · decide +kernel
  · decide +kernel
  · decide +kernel
  · decide +kernel
  · intro _ _ _ _ _ _ us hl
    match us, hl with
    | [_], _ => rfl
  · intro q hq
    cases hq
theorem ok_words_in : n_words_in.Ok T := by
  refine ⟨rfl, rfl, ⟨?_, ?_, ?_, ?_, ?_, ?_, ?_⟩, ?_, rfl, rfl, ?_, ?_⟩
  · decide +kernel
  · decide +kernel
  · decide +kernel
  · decide +kernel
  · decide +kernel
  · decide +kernel
  · decide +kernel
  · decide +kernel
  · intro _ _ _ _ _ _ us hl
    match us, hl with
    | [_], _ => rfl
  · intro q hq
    cases hq
theorem ok_lines_in : n_lines_in.Ok T := by
  refine ⟨rfl, rfl, ⟨?_, ?_, ?_, ?_, ?_, ?_, ?_⟩, ?_, rfl, rfl, ?_, ?_⟩
  · decide +kernel
  · decide +kernel
  · decide +kernel
  · decide +kernel
  · decide +kernel
  · decide +kernel
  · decide +kernel
  · decide +kernel
  · intro _ _ _ _ _ _ us hl
    match us, hl with
    | [_], _ => rfl
  · intro q hq
    cases hq
theorem ok_road_in : n_road_in.Ok T := by
  refine ⟨rfl, rfl, ⟨?_, ?_, ?_, ?_, ?_, ?_, ?_⟩, ?_, rfl, rfl, ?_, ?_⟩
  · decide +kernel
  · decide +kernel
  · decide +kernel
  · decide +kernel
  · decide +kernel
  · decide +kernel
  · decide +kernel
  · decide +kernel
  · intro _ _ _ _ _ _ us hl
    match us, hl with
    | [_], _ => rfl
  · intro q hq
    cases hq
theorem ok_read_web : n_read_web.Ok T := by
  refine ⟨rfl, rfl, ⟨?_, ?_, ?_, ?_, ?_, ?_, ?_⟩, ?_, rfl, rfl, ?_, ?_⟩
  · decide +kernel
  · decide +kernel
  · decide +kernel
  · decide +kernel
  · decide +kernel
  · decide +kernel
  · decide +kernel
  · decide +kernel
  · intro _ _ _ _ _ _ us hl
    match us, hl with
    | [_], _ => rfl
  · intro q hq
    cases hq
theorem ok_Web___init__ : n_Web___init__.Ok T := by
  refine ⟨rfl, rfl, ⟨?_, ?_, ?_, ?_, ?_, ?_, ?_⟩, ?_, rfl, rfl, ?_, ?_⟩
  · decide +kernel
  · decide +kernel
  · decide +kernel
  · decide +kernel
  · decide +kernel
  · decide +kernel
  · decide +kernel
  · decide +kernel
  · intro _ _ _ _ _ _ us hl
    match us, hl with
    | [_, _], _ => rfl
  · intro q hq
    cases hq
theorem ok__law_pot : n__law_pot.Ok T := by
  refine ⟨rfl, rfl, ⟨?_, ?_, ?_, ?_, ?_, ?_, ?_⟩, ?_, rfl, rfl, ?_, ?_⟩
  · decide +kernel
  · decide +kernel
  · decide +kernel
  · decide +kernel
  · decide +kernel
  · decide +kernel
  · decide +kernel
  · decide +kernel
  · intro _ _ _ _ _ _ us hl
    match us, hl with
    | [_, _], _ => rfl
  · intro q hq
    cases hq
theorem ok__law_take : n__law_take.Ok T := by
  refine ⟨rfl, rfl, ⟨?_, ?_, ?_, ?_, ?_, ?_, ?_⟩, ?_, rfl, rfl, ?_, ?_⟩
  · decide +kernel
  · decide +kernel
  · decide +kernel
  · decide +kernel
  · decide +kernel
  · decide +kernel
  · decide +kernel
  · decide +kernel
  · intro _ _ _ _ _ _ us hl
    match us, hl with
    | [_, _], _ => rfl
  · intro q hq
    cases hq
theorem ok__law_of : n__law_of.Ok T := by
  refine ⟨rfl, rfl, ⟨?_, ?_, ?_, ?_, ?_, ?_, ?_⟩, ?_, rfl, rfl, ?_, ?_⟩
  · decide +kernel
  · decide +kernel
  · decide +kernel
  · decide +kernel
  · decide +kernel
  · decide +kernel
  · decide +kernel
  · decide +kernel
  · intro _ _ _ _ _ _ us hl
    match us, hl with
    | [_, _], _ => rfl
  · intro q hq
    cases hq
theorem ok__law_cells : n__law_cells.Ok T := by
  refine ⟨rfl, rfl, ⟨?_, ?_, ?_, ?_, ?_, ?_, ?_⟩, ?_, rfl, rfl, ?_, ?_⟩
  · decide +kernel
  · decide +kernel
  · decide +kernel
  · decide +kernel
  · decide +kernel
  · decide +kernel
  · decide +kernel
  · decide +kernel
  · intro _ _ _ _ _ _ us hl
    match us, hl with
    | [_, _], _ => rfl
  · intro q hq
    cases hq
theorem ok__law_names : n__law_names.Ok T := by
  refine ⟨rfl, rfl, ⟨?_, ?_, ?_, ?_, ?_, ?_, ?_⟩, ?_, rfl, rfl, ?_, ?_⟩
  · decide +kernel
  · decide +kernel
  · decide +kernel
  · decide +kernel
  · decide +kernel
  · decide +kernel
  · decide +kernel
  · decide +kernel
  · intro _ _ _ _ _ _ us hl
    match us, hl with
    | [_, _], _ => rfl
  · intro q hq
    cases hq
theorem ok__law_ends : n__law_ends.Ok T := by
  refine ⟨rfl, rfl, ⟨?_, ?_, ?_, ?_, ?_, ?_, ?_⟩, ?_, rfl, rfl, ?_, ?_⟩
  · decide +kernel
  · decide +kernel
  · decide +kernel
  · decide +kernel
  · decide +kernel
  · decide +kernel
  · decide +kernel
  · decide +kernel
  · intro _ _ _ _ _ _ us hl
    match us, hl with
    | [_, _], _ => rfl
  · intro q hq
    cases hq
theorem ok__law_web : n__law_web.Ok T := by
  refine ⟨rfl, rfl, ⟨?_, ?_, ?_, ?_, ?_, ?_, ?_⟩, ?_, rfl, rfl, ?_, ?_⟩
  · decide +kernel
  · decide +kernel
  · decide +kernel
  · decide +kernel
  · decide +kernel
  · decide +kernel
  · decide +kernel
  · decide +kernel
  · intro _ _ _ _ _ _ us hl
    match us, hl with
    | [_, _], _ => rfl
  · intro q hq
    cases hq
theorem ok__law_web_text : n__law_web_text.Ok T := by
  refine ⟨rfl, rfl, ⟨?_, ?_, ?_, ?_, ?_, ?_, ?_⟩, ?_, rfl, rfl, ?_, ?_⟩
  · decide +kernel
  · decide +kernel
  · decide +kernel
  · decide +kernel
  · decide +kernel
  · decide +kernel
  · decide +kernel
  · decide +kernel
  · intro _ _ _ _ _ _ us hl
    match us, hl with
    | [_], _ => rfl
  · intro q hq
    cases hq
theorem ok__law_heard : n__law_heard.Ok T := by
  refine ⟨rfl, rfl, ⟨?_, ?_, ?_, ?_, ?_, ?_, ?_⟩, ?_, rfl, rfl, ?_, ?_⟩
  · decide +kernel
  · decide +kernel
  · decide +kernel
  · decide +kernel
  · decide +kernel
  · decide +kernel
  · decide +kernel
  · decide +kernel
  · intro _ _ _ _ _ _ us hl
    match us, hl with
    | [_], _ => rfl
  · intro q hq
    cases hq
theorem ok__law_bad_rows : n__law_bad_rows.Ok T := by
  refine ⟨rfl, rfl, ⟨?_, ?_, ?_, ?_, ?_, ?_, ?_⟩, ?_, rfl, rfl, ?_, ?_⟩
  · decide +kernel
  · decide +kernel
  · decide +kernel
  · decide +kernel
  · decide +kernel
  · decide +kernel
  · decide +kernel
  · decide +kernel
  · intro _ _ _ _ _ _ us hl
    match us, hl with
    | [], _ => rfl
  · intro q hq
    cases hq
theorem ok__law_spoilt : n__law_spoilt.Ok T := by
  refine ⟨rfl, rfl, ⟨?_, ?_, ?_, ?_, ?_, ?_, ?_⟩, ?_, rfl, rfl, ?_, ?_⟩
  · decide +kernel
  · decide +kernel
  · decide +kernel
  · decide +kernel
  · decide +kernel
  · decide +kernel
  · decide +kernel
  · decide +kernel
  · intro _ _ _ _ _ _ us hl
    match us, hl with
    | [_, _], _ => rfl
  · intro q hq
    cases hq
theorem ok__law_right : n__law_right.Ok T := by
  refine ⟨rfl, rfl, ⟨?_, ?_, ?_, ?_, ?_, ?_, ?_⟩, ?_, rfl, rfl, ?_, ?_⟩
  · decide +kernel
  · decide +kernel
  · decide +kernel
  · decide +kernel
  · decide +kernel
  · decide +kernel
  · decide +kernel
  · decide +kernel
  · intro _ _ _ _ _ _ us hl
    match us, hl with
    | [_], _ => rfl
  · intro q hq
    cases hq
theorem ok_law : n_law.Ok T := by
  refine ⟨rfl, rfl, ⟨?_, ?_, ?_, ?_, ?_, ?_, ?_⟩, ?_, rfl, rfl, ?_, ?_⟩
  · decide +kernel
  · decide +kernel
  · decide +kernel
  · decide +kernel
  · decide +kernel
  · decide +kernel
  · decide +kernel
  · decide +kernel
  · intro _ _ _ _ _ _ us hl
    match us, hl with
    | [_], _ => rfl
  · intro q hq
    cases hq
theorem draws : Draws T.fdef keep f__law_pot f__law_take f__law_of f__law_cells :=
  ⟨⟨_, _, _, _, _, rfl, rfl, by decide, by decide, by decide, by decide, by decide⟩, ⟨_, _, _, _, _, rfl, rfl, by decide, by decide, by decide, by decide, by decide⟩, ⟨rfl, rfl⟩, ⟨rfl, rfl⟩⟩
theorem oks : ∀ n ∈ tb, n.Ok T := by
  simp only [tb, List.forall_mem_cons]
  exact ⟨ok_is_name, ok_words_in, ok_lines_in, ok_road_in, ok_read_web, ok_Web___init__, ok__law_pot, ok__law_take, ok__law_of, ok__law_cells, ok__law_names, ok__law_ends, ok__law_web, ok__law_web_text, ok__law_heard, ok__law_bad_rows, ok__law_spoilt, ok__law_right, ok_law, fun _ h => nomatch h⟩
abbrev lawAt : Nat := 31
def loose0 : List Str := ["QueueError", "BadWeb", "LETTERS", "BLANK", "FEED", "MOST_LETTERS", "is_name", "words_in", "lines_in", "ROAD", "MOST_ROADS", "LINE_WORDS", "road_in", "read_web", "Web", "_law_pot", "_law_take", "_law_of", "_law_cells", "_law_names", "_law_ends", "_law_web", "_law_web_text", "_law_heard", "_law_bad_rows", "_law_spoilt", "_law_right"]
abbrev loose : List Str := loose0
abbrev row : PySem.W.OpenRow := PySem.W.OpenLaw.row PySem.Challenge.rw_roadqueues_k01_lines_of_no_web
abbrev hk : PySem.W.Hook := hookOf 6 tb frees glos flds tf file errs
def ob (s : PySem.W.SharedT) : He.AlX × (Bool × List He.FnW) := obsE 6 (factsOf tb frees flds) (defsOf tb) tf (exOf glos file errs) (prdsOf tb) (HandSHeadRun.getT s)
theorem ob_is (s : PySem.W.SharedT) : ob s = hk.obs s.abs := obsE_eq (HandSHeadRun.getT_eq s)
theorem goes (w : World) : HandSHeadRun.RunEq row (PySem.W.view row.prog [lawAt]) hk ob 4000 loose w := by
  intro os
  kernel_rfl
end K01

namespace K01
open PySem Mi
noncomputable abbrev O (k : Nat) : Orc := callN T.fdef keep k
def LETT : Str := "abcdefghijklmnopqrstuvwxyz"
def DIGI : Str := "0123456789"
theorem in_abc {c : Nat} (h : 97 ≤ c ∧ c ≤ 122) : inStr ⟨#[c]⟩ LETT = true := by
  have : ∀ d : Nat, d < 26 → inStr ⟨#[97 + d]⟩ LETT = true := by decide +kernel
  have := this (c - 97) (by omega)
  rwa [show 97 + (c - 97) = c by omega] at this
theorem in_digits {c : Nat} (h : 48 ≤ c ∧ c ≤ 57) : inStr ⟨#[c]⟩ DIGI = true := by
  have : ∀ d : Nat, d < 10 → inStr ⟨#[48 + d]⟩ DIGI = true := by decide +kernel
  have := this (c - 48) (by omega)
  rwa [show 48 + (c - 48) = c by omega] at this
theorem c_is_name {k : Nat} {s : Sto} {x : Str} (h : Nm x) : O (k + 1) f_is_name [.str x] s = .ok (.bl true) s := by
  refine (call_eq (fd := d_is_name) rfl rfl rfl).trans ?_
  have l := b1_len_str (x := x) (by have := h.few; omega)
  have m : mapR (turnC (.nm 1) [1] [some (.str x), none] fun env s => ev (O k) e1_is_name env s) (chars x) s = .ok (x.cps.toList.map fun _ => .bl true) s := mapR_map fun c hc => by
    have z := in_abc (h.abc c hc)
    simp only [turnC, wipe, e1_is_name, g_LETTERS, ev]
    simp [cmpop, inR]
    exact z
  have h1 : (1 : Int) ≤ (x.length : Int) := by have := h.one; omega
  have h2 : (x.length : Int) ≤ 8 := by have := h.few; omega
  have n : x.cps.size ≤ 16777216 := by
    have := h.few
    unfold Str.length at this
    omega
  have : runF (O k) d_is_name [.str x] s = .ok (.bl true) s := by
    simp [runF, d_is_name, b_is_name, evSs, evS, evv, tst_or, tst_or1, tst_not]
    simp [tst, ev, isTy, l, h1, h2, g_MOST_LETTERS, srcP, m, sizeMax, n, sqP, bq, boolsOf_true]
  rw [this]
  exact sweep_same rfl
theorem c_words_in {k : Nat} {s : Sto} {x : Str} {ps : List Str} (e : Txt.split x sp = ps) (h : x.length + 2 ≤ sizeMax) : O (k + 1) f_words_in [.str x] s = .ok (.flst (ps.map .str)) s := by
  refine (call_eq (fd := d_words_in) rfl rfl rfl).trans ?_
  have e' : Txt.split x " " = ps := e
  have : runF (O k) d_words_in [.str x] s = .ok (.loc s.length) (s ++ [.lst (ps.map .str)]) := by
    have q : ¬ Str.length (" " : Str) = 0 := by decide +kernel
    simp [runF, d_words_in, b_words_in, evSs, evS, evv, ev, evs, g_BLANK, mtTy, Mt.isStr, mthR, h, e', q]
  rw [this]
  exact sweep_new app_end (Nat.le_refl _) (undL_map fun _ _ => rfl)
theorem c_lines_in {k : Nat} {s : Sto} {x : Str} {ps : List Str} (e : Txt.split x nl = ps) (h : x.length + 2 ≤ sizeMax) : O (k + 1) f_lines_in [.str x] s = .ok (.flst (ps.map .str)) s := by
  refine (call_eq (fd := d_lines_in) rfl rfl rfl).trans ?_
  have e' : Txt.split x "\n" = ps := e
  have : runF (O k) d_lines_in [.str x] s = .ok (.loc s.length) (s ++ [.lst (ps.map .str)]) := by
    have q : ¬ Str.length ("\n" : Str) = 0 := by decide +kernel
    simp [runF, d_lines_in, b_lines_in, evSs, evS, evv, ev, evs, g_FEED, mtTy, Mt.isStr, mthR, h, e', q]
  rw [this]
  exact sweep_new app_end (Nat.le_refl _) (undL_map fun _ _ => rfl)
end K01

namespace K01
open PySem Mi
theorem b1_len_lett (s : Sto) : b1 .len (.str LETTS) s = some (.int 26) := by
  rw [b1_len_str (by rw [show LETTS.length = 26 by decide +kernel]; decide)]
  rw [show LETTS.length = 26 by decide +kernel]
  rfl
theorem vars_run {k : Nat} {S : Sto} {x : Str} {e0 e1 e2 e3 e4 e6 e7 e8 : Option D} (h : Nm x) : mapR (turnC (.nm 6) [6] [e0, e1, e2, e3, e4, some (.str x), e6, e7, e8] fun env s => ev (O k) e3__law_names env s) (chars LETTS) S = .ok ((LETTS.cps.toList.map (other x)).map .str) S := by
  rw [List.map_map]
  refine mapR_map fun c hc => ?_
  have l := h.few
  have l1 : x.length ≤ 16777216 := by omega
  have l2 : (⟨#[c]⟩ : Str).length + (L2.cutS x (some 1) none).length ≤ 16777216 := by
    have := L2.cutS_length x (some 1) none
    have : (⟨#[c]⟩ : Str).length = 1 := rfl
    omega
  simp [turnC, wipe, e3__law_names, ev, part, isNonE, slcR, sizeMax, l1, bin_strs l2, other]
theorem flat_any (y : Str) (found : List Str) : ((found.map D.str).any fun z => flatEq z (.str y)) = decide (y ∈ found) := by
  induction found with
  | nil => rfl
  | cons a l ih =>
    rw [List.map_cons, List.any_cons, ih]
    by_cases e : a = y
    · subst e
      simp [flatEq]
    · simp [flatEq, e, Ne.symm e]
theorem strs_scalar (l : List Str) : (l.map D.str).all scalar = true := by
  induction l with
  | nil => rfl
  | cons a l ih => simp [scalar, ih]
theorem nin_strs {s : Sto} {d : D} {q : Bool} {found : List Str} (h : sq d s = some (q, found.map .str)) (hd : dicOf d s = none) (y : Str) (hs : ∀ z, d ≠ .str z) : cmpop .nin (.str y) d s = some (!decide (y ∈ found)) := by
  have : inR (.str y) d s = some (decide (y ∈ found)) := by
    unfold inR
    cases d with
    | str z => exact absurd rfl (hs z)
    | _ =>
      simp only [hd, inSeq, h, strs_scalar, scalar, Bool.and_self, if_true, flat_any]
  simp [cmpop, this]
theorem new_run {k : Nat} {S : Sto} {f : Nat} {found l : List Str} {e0 e1 e3 e4 e5 e6 e7 e8 : Option D} (hf : S[f]? = some (.lst (found.map .str))) :
    mapR (turnX (.nm 8) [8] [e0, e1, some (.loc f), e3, e4, e5, e6, e7, e8] (fun env s => (ev (O k) e2__law_names env s).bindv fun d s1 => R.ofO (truth d s1) s1) fun env s => ev (O k) e1__law_names env s) (l.map .str) S = .ok (l.map fun x => if x ∈ found then none else some (.str x)) S := by
  refine mapR_map fun y hy => ?_
  have n := nin_strs (sq_loc hf) (by simp [dicOf, hf]) y (fun z => nofun)
  simp only [turnX, wipe, e1__law_names, e2__law_names, ev]
  simp [n]
  by_cases q : y ∈ found <;> simp [q]
theorem keep_new (l found : List Str) : (l.map fun x => if x ∈ found then none else some (D.str x)).filterMap id = (l.filter fun y => decide (y ∉ found)).map .str := by
  induction l with
  | nil => rfl
  | cons a l ih =>
    rw [List.map_cons, List.filter_cons]
    by_cases q : a ∈ found <;> simp [q] at ih ⊢ <;> exact ih
theorem letter_run {k N : Nat} {b S : Sto} {n : Nat} {t : List Cell} {m : Int} {e1 e2 e4 e5 e6 e7 e8 : Option D} (P : Pz b n t m S) (hm : m + N < 1099511627776) :
    ∃ (cs : List Nat) (S' : Sto), mapR (turnC (.nm 6) [6] [some (.loc n), e1, e2, some (.str LETTS), e4, e5, e6, e7, e8] fun env s => ev (O (k + 2)) e4__law_names env s) (irange N) S = .ok ((cs.map fun c => (⟨#[c]⟩ : Str)).map .str) S' ∧ Pz b n t (m + N) S' ∧ cs.length = N ∧ ∀ c ∈ cs, 97 ≤ c ∧ c ≤ 122 := by
  obtain ⟨bs, S', q1, q2, q3, q4⟩ := mapR_inv (f := turnC (.nm 6) [6] [some (.loc n), e1, e2, some (.str LETTS), e4, e5, e6, e7, e8] fun env s => ev (O (k + 2)) e4__law_names env s) (h := fun (j : Nat) => D.int (j : Int)) (l := List.range N) (i := 0) (s := S)
    (I := fun j S => Pz b n t (m + j) S) (Q := fun _ d => ∃ c, d = D.str (⟨#[c]⟩ : Str) ∧ (97 ≤ c ∧ c ≤ 122)) (by simpa using P) fun a _ j S _ hj P => by
      rw [Nat.zero_add, List.length_range] at hj
      obtain ⟨c, S', e, hc, P'⟩ := P.of_str draws (k := k) (x := LETTS) (by omega) (by decide +kernel) (by decide +kernel)
      refine ⟨.str ⟨#[c]⟩, S', ?_, by rw [Int.natCast_add, ← Int.add_assoc]; exact P', c, rfl, mem_LETTS hc⟩
      simp [turnC, wipe, e4__law_names, ev, evs, e]
  obtain ⟨cs, rfl, hcs⟩ := unmap (g := fun c : Nat => D.str (⟨#[c]⟩ : Str)) fun x hx => (allQ q3 q4 x hx).elim fun _ h => h.2
  refine ⟨cs, S', by rw [irange_map, q1, List.map_map]; rfl, by simpa using q2, by simpa using q3, hcs⟩
def sixW : List Str := ["road", "put", "way", "beat", "eldest", "home"]
theorem nm_six : ∀ x ∈ sixW, Nm x := by
  intro x hx
  have a : ∀ x ∈ sixW, 1 ≤ x.length ∧ x.length ≤ 8 ∧ ∀ c ∈ TL.tl x, 97 ≤ c ∧ c ≤ 122 := by decide +kernel
  exact ⟨(a x hx).1, (a x hx).2.1, (a x hx).2.2⟩
def N5 (x : Str) : Prop := Nm x ∧ x.length ≠ 5
theorem n5_glue {cs : List Nat} (h1 : 1 ≤ cs.length) (h2 : cs.length ≤ 8) (h5 : cs.length ≠ 5) (h : ∀ c ∈ cs, 97 ≤ c ∧ c ≤ 122) : N5 (Txt.join "" (cs.map fun c => (⟨#[c]⟩ : Str))) :=
  ⟨nm_glue h1 h2 h, by rw [TL.len_tl, glue_letters]; exact h5⟩
theorem n5_others {x : Str} (h : N5 x) : ∀ y ∈ others x, N5 y := by
  intro y hy
  refine ⟨nm_others h.1 y hy, ?_⟩
  rcases List.mem_cons.mp hy with rfl | hy
  · exact h.2
  · obtain ⟨c, hc, rfl⟩ := List.mem_map.mp hy
    have h0 := h.1.one
    have h2 := h.2
    rw [TL.len_tl] at h0 h2 ⊢
    rw [tl_other]
    simp
    omega
theorem n5_six : ∀ x ∈ sixW, N5 x := fun x hx => ⟨nm_six x hx, by
  have a : ∀ x ∈ sixW, x.length ≠ 5 := by decide +kernel
  exact a x hx⟩
theorem names_rest {k : Nat} {b S : Sto} {n : Nat} {t : List Cell} {m : Int} {found : List Str} {w : Str} {v0 v1 v4 v6 v7 v8 : Option D} (P : Pz b n (.lst (found.map .str) :: t) m S) (hf : found.length < 26) (hw : N5 w) :
    ∃ (x : Str) (t' : List Cell) (S' : Sto) (v7' : Option D), evSs (O k) l1__law_names.tl.tl [v0, v1, some (.loc b.length), some (.str LETTS), v4, some (.str w), v6, v7, v8] S = .ok .nxt [v0, v1, some (.loc b.length), some (.str LETTS), v4, some (.str w), v6, v7', v8] S' ∧ Pz b n (.lst ((found ++ [x]).map .str) :: t') m S' ∧ N5 x ∧ x ∉ found := by
  obtain ⟨x, r, hx⟩ := others_new w hf
  have mx : x ∈ (others w).filter (fun y => decide (y ∉ found)) := by rw [hx]; exact List.mem_cons_self
  obtain ⟨mx1, mx2⟩ := List.mem_filter.mp mx
  have l26 : (LETTS.cps.toList.map (other w)).length = 26 := by rw [List.length_map]; decide +kernel
  have vr := fun S => vars_run (k := k) (S := S) (e0 := v0) (e1 := v1) (e2 := some (.loc b.length)) (e3 := some (.str LETTS)) (e4 := v4) (e6 := v6) (e7 := v7) (e8 := v8) hw.1
  have kn := keep_new (others w) found
  rw [hx] at kn
  have hC : (others w).map D.str = .str w :: (LETTS.cps.toList.map (other w)).map .str := rfl
  have l27 : ((others w).map fun x => if x ∈ found then none else some (D.str x)).length = 27 := by
    rw [List.length_map]
    unfold others
    rw [List.length_cons, l26]
  have nr := fun S hS => new_run (k := k) (S := S) (f := b.length) (found := found) (l := others w) (e0 := v0) (e1 := v1) (e3 := some (.str LETTS)) (e4 := v4) (e5 := some (.str w)) (e6 := v6) (e7 := v7) (e8 := v8) hS
  have l26' : ((LETTS.cps.toList.map (other w)).map D.str).length = 26 := by rw [List.length_map, l26]
  generalize (LETTS.cps.toList.map (other w)).map D.str = A at *
  generalize (others w).map (fun x => if x ∈ found then none else some (D.str x)) = E at *
  -- the stores
  obtain ⟨S1, hS1⟩ : ∃ z, S ++ [Cell.lst [.str w]] = z := ⟨_, rfl⟩
  obtain ⟨S2, hS2⟩ : ∃ z, S1 ++ [Cell.lst A] = z := ⟨_, rfl⟩
  obtain ⟨S3, hS3⟩ : ∃ z, S2 ++ [Cell.lst ((x :: r).map .str)] = z := ⟨_, rfl⟩
  have P1 := P.app (u := [.lst [.str w]])
  rw [hS1] at P1
  have P2 := P1.app (u := [.lst A])
  rw [hS2] at P2
  have c2 : S2[b.length]? = some (.lst (found.map .str)) := P2.get 0
  have P3 := P2.app (u := [.lst ((x :: r).map .str)])
  rw [hS3] at P3
  have c3 : S3[b.length]? = some (.lst (found.map .str)) := P3.get 0
  have P4 := P3.put 0 (.lst ((found ++ [x]).map .str))
  rw [Nat.add_zero] at P4
  refine ⟨x, _, S3.set b.length (.lst ((found ++ [x]).map .str)), some (.loc S2.length), ?_, P4, n5_others hw x mx1, by simpa using mx2⟩
  have ad : addR (.loc S.length) (.loc S1.length) S2 = some (.new ((others w).map .str)) := by
    have z1 : lstOf (.loc S.length) S2 = some [.str w] := by rw [← hS2, ← hS1]; simp [lstOf]
    have z2 : lstOf (.loc S1.length) S2 = some A := by rw [← hS2]; simp [lstOf]
    simp only [addR, z1, z2]
    rw [if_pos (by rw [l26']; show 1 + 26 ≤ sizeMax; decide), hC]
    rfl
  have ix : idxR (.loc S2.length) (.int 0) S3 = some (.str x) := by
    rw [← hS3, idx_loc app_end]
    exact item0 _ _
  have a3 := app_mth c3 (.str x) (by rw [List.length_map]; unfold sizeMax; omega)
  have m3 := mty_loc c3 (f := .append) rfl
  have e1 : evS (O k) l1__law_names.tl.tl.hd [v0, v1, some (.loc b.length), some (.str LETTS), v4, some (.str w), v6, v7, v8] S = .ok .nxt [v0, v1, some (.loc b.length), some (.str LETTS), v4, some (.str w), v6, some (.loc S2.length), v8] S3 := by
    simp [l1__law_names, Ss.tl, Ss.hd, evS, evv, ev, evs, sizeMax, hS1, srcP, vr S1, l26', hS2, binR, ad, nr S2 c2, l27]
    rw [kn, hS3]
  rw [evSs_step e1]
  simp [l1__law_names, Ss.tl, evSs, evS, evv, ev, evs, ix, m3, a3]
theorem names_lap {k : Nat} {b S : Sto} {n : Nat} {t : List Cell} {m : Int} {found : List Str} {v1 v4 v5 v6 v7 v8 : Option D} (P : Pz b n (.lst (found.map .str) :: t) m S) (hm : m + 20 < 1099511627776) (hf : found.length < 26) :
    ∃ (x : Str) (t' : List Cell) (S' : Sto) (v5' v7' : Option D), evSs (O (k + 2)) l1__law_names [some (.loc n), v1, some (.loc b.length), some (.str LETTS), v4, v5, v6, v7, v8] S = .ok .nxt [some (.loc n), v1, some (.loc b.length), some (.str LETTS), v4, v5', v6, v7', v8] S' ∧ Pz b n (.lst ((found ++ [x]).map .str) :: t') (m + 20) S' ∧ N5 x ∧ x ∉ found := by
  -- how long
  obtain ⟨d1, S1, e1, h1, P1⟩ := P.of_new draws (k := k) (xs := [.int 0, .int 0, .int 0, .int 1, .int 2, .int 7]) (by omega) (by simp) (by decide) (by simp)
  obtain ⟨r, rfl, hr⟩ : ∃ r : Int, d1 = .int r ∧ 0 ≤ r ∧ r ≤ 7 ∧ r ≠ 4 := by
    simp only [List.mem_cons, List.not_mem_nil, or_false] at h1
    rcases h1 with rfl | rfl | rfl | rfl | rfl | rfl <;> exact ⟨_, rfl, by decide, by decide, by decide⟩
  obtain ⟨cs, S2, e2, P2, n2, c2⟩ := letter_run (k := k) (N := (1 + r).toNat) (e1 := v1) (e2 := some (.loc b.length)) (e4 := v4) (e5 := v5) (e6 := v6) (e7 := v7) (e8 := v8) P1 (by omega)
  have hw : N5 (Txt.join "" (cs.map fun c => (⟨#[c]⟩ : Str))) := n5_glue (by omega) (by omega) (by omega) c2
  have rg := rg1 (n := 1 + r) (by omega)
  have jf := join_fits (ys := cs.map fun c => (⟨#[c]⟩ : Str)) (a := "") (n := 8) (B := 1) (fun y hy => by
    obtain ⟨c, _, rfl⟩ := List.mem_map.mp hy
    exact Nat.le_refl _) (by rw [List.length_map]; omega) (by rw [show Str.length ("" : Str) = 0 by decide +kernel]; decide) (by decide)
  have ln : ((cs.map fun c => (⟨#[c]⟩ : Str)).map D.str).length ≤ sizeMax := by
    rw [List.length_map, List.length_map]
    unfold sizeMax
    omega
  obtain ⟨S3, hS3⟩ : ∃ z, S2 ++ [Cell.lst ((cs.map fun c => (⟨#[c]⟩ : Str)).map .str)] = z := ⟨_, rfl⟩
  have P3 := P2.app (u := [.lst ((cs.map fun c => (⟨#[c]⟩ : Str)).map .str)])
  rw [hS3] at P3
  have jn := join_mth (d := .loc S2.length) (s := S3) (sq_loc (by rw [← hS3]; exact app_end)) (strsOf_map _) jf.1
  generalize Txt.join "" (cs.map fun c => (⟨#[c]⟩ : Str)) = w at *
  generalize (cs.map fun c => (⟨#[c]⟩ : Str)).map D.str = L at *
  have g1 : evS (O (k + 2)) l1__law_names.hd [some (.loc n), v1, some (.loc b.length), some (.str LETTS), v4, v5, v6, v7, v8] S = .ok .nxt [some (.loc n), v1, some (.loc b.length), some (.str LETTS), v4, some (.str w), v6, v7, v8] S3 := by
    simp only [sizeMax] at ln
    simp [l1__law_names, Ss.hd, evS, evv, ev, evs, mtTy, Mt.isStr, sizeMax, e1, rg, srcP, e2, ln, hS3, jn]
  rw [evSs_step g1]
  -- another word
  obtain ⟨r2, S4, e4, _, P4⟩ := P3.take draws (k := k + 1) (u := 11) (by omega) (by decide)
  by_cases hr2 : r2 = 0
  · obtain ⟨d5, S5, e5, h5, P5⟩ := P4.of_new draws (k := k) (xs := sixW.map .str) (by omega) (by simp [sixW]) (by decide) (fun x hx => by
      obtain ⟨y, _, rfl⟩ := List.mem_map.mp hx
      rfl)
    obtain ⟨w5, hw5, rfl⟩ := List.mem_map.mp h5
    have g2 : evS (O (k + 2)) l1__law_names.tl.hd [some (.loc n), v1, some (.loc b.length), some (.str LETTS), v4, some (.str w), v6, v7, v8] S3 = .ok .nxt [some (.loc n), v1, some (.loc b.length), some (.str LETTS), v4, some (.str w5), v6, v7, v8] S5 := by
      simp [l1__law_names, Ss.tl, Ss.hd, evS, evSs, evv, tst, ev, evs, e4, hr2, sizeMax]
      simp [sixW] at e5
      simp [e5]
    rw [evSs_step g2]
    obtain ⟨x, t', S', v7', q1, q2, q3, q4⟩ := names_rest (k := k + 2) (v0 := some (.loc n)) (v1 := v1) (v4 := v4) (v6 := v6) (v7 := v7) (v8 := v8) (by simpa using P5) hf (n5_six w5 hw5)
    exact ⟨x, t', S', _, v7', q1, q2.le (by omega), q3, q4⟩
  · have g2 : evS (O (k + 2)) l1__law_names.tl.hd [some (.loc n), v1, some (.loc b.length), some (.str LETTS), v4, some (.str w), v6, v7, v8] S3 = .ok .nxt [some (.loc n), v1, some (.loc b.length), some (.str LETTS), v4, some (.str w), v6, v7, v8] S4 := by
      simp [l1__law_names, Ss.tl, Ss.hd, evS, evSs, evv, tst, ev, evs, e4, hr2]
    rw [evSs_step g2]
    obtain ⟨x, t', S', v7', q1, q2, q3, q4⟩ := names_rest (k := k + 2) (v0 := some (.loc n)) (v1 := v1) (v4 := v4) (v6 := v6) (v7 := v7) (v8 := v8) (by simpa using P4) hf hw
    exact ⟨x, t', S', _, v7', q1, q2.le (by omega), q3, q4⟩
theorem lt_LETTS : ("abcdefghijklmnopqrstuvwxyz" : Str) = LETTS := rfl
theorem c_names {k : Nat} {S : Sto} {n : Nat} {m v : Int} {j : Nat} (P : Pz S n [] m S) (hv : v = j) (hm : m + 20 * j < 1099511627000) (hj : j < 26) :
    ∃ (found : List Str) (S' : Sto), O (k + 3) f__law_names [.loc n, .int v] S = .ok (.flst (found.map .str)) S' ∧ Pz S n [] (m + 20 * j) S' ∧ found.length = j ∧ found.Nodup ∧ ∀ x ∈ found, N5 x := by
  have P0 := P.app (u := [.lst []])
  rw [List.nil_append] at P0
  obtain ⟨env', S', e1, ⟨found, t, v4, v5, v6, v7, v8, q1, q2, q3, q4, rfl⟩⟩ := turns_all (f := turnF (.nm 4) fun env s => evSs (O (k + 2)) l1__law_names env s) (h := fun (i : Nat) => D.int (i : Int)) (l := List.range j)
    (I := fun i env X => ∃ found t v4 v5 v6 v7 v8, Pz S n (.lst (found.map .str) :: t) (m + 20 * i) X ∧ found.length = i ∧ found.Nodup ∧ (∀ x ∈ found, N5 x) ∧ env = [some (.loc n), some (.int v), some (.loc S.length), some (.str LETTS), v4, v5, v6, v7, v8])
    (env := [some (.loc n), some (.int v), some (.loc S.length), some (.str LETTS), none, none, none, none, none]) (s := S ++ [.lst []]) ⟨[], [], none, none, none, none, none, by simpa using P0, rfl, List.nodup_nil, (by simp), rfl⟩ (by
      rintro i a ha env X ⟨found, t, v4, v5, v6, v7, v8, q1, q2, q3, q4, rfl⟩
      have hi := (List.getElem?_eq_some_iff.mp ha).1
      rw [List.length_range] at hi
      obtain ⟨x, t', S', v5', v7', z1, z2, z3, z4⟩ := names_lap (k := k) (v1 := some (.int v)) (v4 := some (.int a)) (v5 := v5) (v6 := v6) (v7 := v7) (v8 := v8) q1 (by omega) (by omega)
      refine ⟨_, S', by simp only [turnF, bt_nm]; exact z1, found ++ [x], t', some (.int a), v5', v6, v7', v8, z2.le (by rw [Int.natCast_add]; omega), by simp [q2], ?_, fun y hy => ?_, rfl⟩
      · rw [List.nodup_append]
        exact ⟨q3, by simp, fun a ha b hb e => z4 (by rw [← List.mem_singleton.mp hb, ← e]; exact ha)⟩
      · rcases List.mem_append.mp hy with hy | hy
        · exact q4 y hy
        · rw [List.mem_singleton.mp hy]
          exact z3)
  rw [List.length_range] at q1 q2
  have rg := rg1 (n := v) (by omega)
  have e2 : runF (O (k + 2)) d__law_names [.loc n, .int v] S = .ok (.loc S.length) S' := by
    simp [runF, d__law_names, b__law_names, evSs, evS, evv, ev, evs, evi, sizeMax, rg, srcP, irange_map, lt_LETTS]
    rw [show v.toNat = j by omega, e1]
    simp
  obtain ⟨S2, e3, P3⟩ := q1.sweepL (j := 0) rfl (undL_map fun x _ => rfl)
  refine ⟨found, S2, ?_, P3, q2, q3, q4⟩
  refine (call_eq (fd := d__law_names) rfl rfl rfl).trans ?_
  rw [e2]
  exact e3
abbrev endD (p : Int × Int) : D := .tup [.int p.1, .int p.2]
def EndOk (v : Int) (p : Int × Int) : Prop := 0 ≤ p.1 ∧ p.1 < v ∧ 0 ≤ p.2 ∧ p.2 < v ∧ p.1 ≠ p.2
theorem ends_lap {k : Nat} {b S : Sto} {n : Nat} {L : Cell} {m v w : Int} {E : List (Int × Int)} {v3 v4 v6 v7 v8 : Option D} (P : Pz b n [L, .lst (E.map endD)] m S) (hm : m + 2 < 1099511627776) (hv : 2 ≤ v ∧ v < 1000) (hE : E.length < 10000) :
    ∃ (p : Int × Int) (S' : Sto) (v7' v8' : Option D), evSs (O (k + 1)) l1__law_ends [some (.loc n), some (.int v), some (.int w), v3, v4, some (.loc (b.length + 1)), v6, v7, v8] S = .ok .nxt [some (.loc n), some (.int v), some (.int w), v3, v4, some (.loc (b.length + 1)), v6, v7', v8'] S' ∧ Pz b n [L, .lst ((E ++ [p]).map endD)] (m + 2) S' ∧ EndOk v p := by
  obtain ⟨a, S1, e1, ⟨a0, a1⟩, P1⟩ := P.take draws (k := k) (u := v) (by omega) (by omega)
  obtain ⟨c, S2, e2, ⟨c0, c1⟩, P2⟩ := P1.take draws (k := k) (u := v - 1) (by omega) (by omega)
  have md := bin_mod (i := a + 1 + c) (j := v) (by omega)
  have o0 := Int.emod_nonneg (a + 1 + c) (b := v) (by omega)
  have o1 := Int.emod_lt_of_pos (a + 1 + c) (b := v) (by omega)
  have on : (a + 1 + c) % v ≠ a := by
    by_cases q : a + 1 + c < v
    · rw [Int.emod_eq_of_lt (by omega) q]
      omega
    · have z : (a + 1 + c) % v = a + 1 + c - v := by
        rw [← Int.emod_eq_of_lt (a := a + 1 + c - v) (b := v) (by omega) (by omega), Int.sub_emod_right]
      omega
  generalize ho : (a + 1 + c) % v = o at *
  have c3 : S2[b.length + 1]? = some (.lst (E.map endD)) := P2.get 1
  have mt := mty_loc c3 (f := .append) rfl
  by_cases q : w = 5
  · have ap := app_mth c3 (endD (if o < a then o else a, if a < o then o else a)) (by rw [List.length_map]; unfold sizeMax; omega)
    have P3 := P2.put 1 (.lst ((E ++ [(if o < a then o else a, if a < o then o else a)]).map endD))
    refine ⟨(if o < a then o else a, if a < o then o else a), _, some (.int a), some (.int o), ?_, P3.le (by omega), ?_⟩
    · rw [List.map_append]
      simp [l1__law_ends, evSs, evS, evv, ev, evs, e1, e2, md, ho, mt, q, sizeMax, ap]
    · show 0 ≤ (if o < a then o else a) ∧ (if o < a then o else a) < v ∧ 0 ≤ (if a < o then o else a) ∧ (if a < o then o else a) < v ∧ (if o < a then o else a) ≠ (if a < o then o else a)
      split <;> split <;> omega
  · have ap := app_mth c3 (endD (a, o)) (by rw [List.length_map]; unfold sizeMax; omega)
    have P3 := P2.put 1 (.lst ((E ++ [(a, o)]).map endD))
    refine ⟨(a, o), _, some (.int a), some (.int o), ?_, P3.le (by omega), ?_⟩
    · rw [List.map_append]
      simp [l1__law_ends, evSs, evS, evv, ev, evs, e1, e2, md, ho, mt, q, sizeMax, ap]
    · exact ⟨a0, a1, o0, o1, fun e => on e.symm⟩
def lineE (v : Int) : List (Int × Int) := (List.range (v - 1).toNat).map fun (j : Nat) => ((j : Int), (j : Int) + 1)
theorem line_ok {v : Int} : ∀ p ∈ lineE v, EndOk v p := by
  intro p hp
  obtain ⟨j, hj, rfl⟩ := List.mem_map.mp hp
  have := List.mem_range.mp hj
  refine ⟨?_, ?_, ?_, ?_, ?_⟩ <;> simp only [] <;> omega
theorem line_len {v : Int} : (lineE v).length = (v - 1).toNat := by simp [lineE]
theorem c_ends {k : Nat} {S : Sto} {n : Nat} {m v : Int} (P : Pz S n [] m S) (hm : m + 3000 < 1099511627776) (hv : 2 ≤ v ∧ v < 1000) :
    ∃ (E : List (Int × Int)) (S' : Sto), O (k + 2) f__law_ends [.loc n, .int v] S = .ok (.flst (E.map endD)) S' ∧ Pz S n [] (m + 3000) S' ∧ 1 ≤ E.length ∧ (E.length : Int) ≤ 2 * v ∧ ∀ p ∈ E, EndOk v p := by
  obtain ⟨w, S1, e1, ⟨w0, w1⟩, P1⟩ := P.take draws (k := k) (u := 7) (by omega) (by decide)
  have rg := rg1 (n := v - 1) (by omega)
  have lr : mapR (turnC (.nm 4) [4] [some (.loc n), some (.int v), none, none, none, none, none, none, none] fun env s => ev (O (k + 1)) e2__law_ends env s) (irange (v - 1).toNat) S1 = .ok ((lineE v).map endD) S1 := by
    unfold lineE
    rw [List.map_map]
    refine mapR_map fun j _ => ?_
    simp [turnC, wipe, e2__law_ends, ev, evs, sizeMax]
  obtain ⟨S2, hS2⟩ : ∃ z, S1 ++ [Cell.lst ((lineE v).map endD)] = z := ⟨_, rfl⟩
  have P2 := P1.app (u := [.lst ((lineE v).map endD)])
  rw [hS2, List.nil_append] at P2
  have ll : ((lineE v).map endD).length ≤ 16777216 := by rw [List.length_map, line_len]; omega
  have len1 : S1.length = S.length := by simpa using P1.len
  have c2 : S2[S.length]? = some (.lst ((lineE v).map endD)) := by simpa using P2.get 0
  have g1 : evS (O (k + 1)) b__law_ends.hd [some (.loc n), some (.int v), none, none, none, none, none, none, none] S = .ok .nxt [some (.loc n), some (.int v), some (.int w), some (.loc S.length), none, none, none, none, none] S2 := by
    generalize (v - 1).toNat = N1 at rg lr
    simp at ll
    simp [b__law_ends, Ss.hd, evS, evv, ev, evs, e1, rg, srcP, lr, sizeMax, ll, hS2, len1]
  have run : ∃ (E : List (Int × Int)) (j : Nat) (t : List Cell) (S' : Sto), (evSs (O (k + 1)) b__law_ends.tl [some (.loc n), some (.int v), some (.int w), some (.loc S.length), none, none, none, none, none] S2).back = some (.loc (S.length + j), S') ∧ Pz S n t (m + 3000) S' ∧ t[j]? = some (.lst (E.map endD)) ∧ 1 ≤ E.length ∧ (E.length : Int) ≤ 2 * v ∧ ∀ p ∈ E, EndOk v p := by
    have lz := line_len (v := v)
    by_cases w00 : w = 0
    · refine ⟨lineE v, 0, _, S2, ?_, P2.le (by omega), rfl, by omega, by omega, line_ok⟩
      simp [b__law_ends, Ss.tl, evSs, evS, tst, evv, ev, w00, RS.back]
    by_cases w11 : w = 1
    · have P3 := (P2.app (u := [.lst [endD (v - 1, 0)]])).app (u := [.lst ((lineE v ++ [(v - 1, 0)]).map endD)])
      have len2 := P2.len
      refine ⟨lineE v ++ [(v - 1, 0)], 2, _, _, ?_, P3.le (by omega), rfl, by simp, by simp; omega, fun p hp => ?_⟩
      · have z1 : lstOf (.loc S.length) (S2 ++ [Cell.lst [endD (v - 1, 0)]]) = some ((lineE v).map endD) := by
          have := app_at (t := [Cell.lst [endD (v - 1, 0)]]) c2
          simp [lstOf, this]
        have z2 : lstOf (.loc S2.length) (S2 ++ [Cell.lst [endD (v - 1, 0)]]) = some [endD (v - 1, 0)] := by simp [lstOf]
        have ad : binR .add (.loc S.length) (.loc S2.length) (S2 ++ [Cell.lst [endD (v - 1, 0)]]) = some (.new ((lineE v ++ [(v - 1, 0)]).map endD)) := by
          simp only [binR, addR, z1, z2]
          rw [if_pos (by simp only [List.length_map, List.length_cons, List.length_nil] at ll ⊢; rw [lz]; unfold sizeMax; omega), List.map_append]
          rfl
        have l2 : (S2 ++ [Cell.lst [endD (v - 1, 0)]]).length = S.length + 2 := by rw [List.length_append, len2]; rfl
        simp only [endD] at ad l2 ⊢
        generalize (lineE v ++ [(v - 1, 0)]).map (fun p : Int × Int => D.tup [.int p.1, .int p.2]) = B at *
        obtain ⟨S3, hS3⟩ : ∃ z, S2 ++ [Cell.lst [D.tup [.int (v - 1), .int 0]]] = z := ⟨_, rfl⟩
        rw [hS3] at ad l2 ⊢
        simp [b__law_ends, Ss.tl, evSs, evS, tst, evv, ev, evs, w11, sizeMax, hS3, ad, RS.back, l2]
      · rcases List.mem_append.mp hp with hp | hp
        · exact line_ok p hp
        · rw [List.mem_singleton.mp hp]
          refine ⟨?_, ?_, ?_, ?_, ?_⟩ <;> simp only [] <;> omega
    by_cases w22 : w = 2
    · have rg2 : rangeOf [.int 1, .int v] = some ((List.range (v - 1).toNat).map fun (j : Nat) => D.int (1 + (j : Int))) := by
        unfold rangeOf
        simp only
        rw [if_pos (by omega)]
      obtain ⟨bs, S', q1, q2, q3, q4⟩ := mapR_inv (f := turnC (.nm 4) [4] [some (.loc n), some (.int v), some (.int w), some (.loc S.length), none, none, none, none, none] fun env s => ev (O (k + 1)) e1__law_ends env s) (h := fun (j : Nat) => D.int (1 + (j : Int))) (l := List.range (v - 1).toNat) (i := 0) (s := S2)
        (I := fun j X => Pz S n [.lst ((lineE v).map endD)] (m + 1 + j) X) (Q := fun j d => ∃ p, d = endD p ∧ (j < (v - 1).toNat → EndOk v p)) (by simpa using P2) fun a _ j X _ hj Q => by
          rw [Nat.zero_add, List.length_range] at hj
          obtain ⟨r, S', e, ⟨r0, r1⟩, Q'⟩ := Q.take draws (k := k) (u := 1 + (a : Int)) (by omega) (by have := ‹a ∈ _›; have := List.mem_range.mp this; omega)
          refine ⟨endD (1 + a, r), S', ?_, by rw [Int.natCast_add, ← Int.add_assoc]; exact Q', (1 + a, r), rfl, fun ha => ?_⟩
          · simp [turnC, wipe, e1__law_ends, ev, evs, e, sizeMax]
          · refine ⟨?_, ?_, ?_, ?_, ?_⟩ <;> simp only [] <;> omega
      obtain ⟨E, rfl, hE⟩ := unmap (g := endD) (p := EndOk v) fun x hx => by
        obtain ⟨a, ha, p, e, hp⟩ := allQ q3 q4 x hx
        exact ⟨p, e, hp (List.mem_range.mp ha)⟩
      rw [List.length_map, List.length_range] at q3
      rw [List.length_range, Nat.zero_add] at q2
      have P3 := q2.app (u := [.lst (E.map endD)])
      have len3 : S'.length = S.length + 1 := q2.len
      refine ⟨E, 1, _, _, ?_, P3.le (by omega), rfl, by omega, by omega, hE⟩
      have l3 : E.length ≤ 16777216 := by omega
      generalize (v - 1).toNat = N at *
      subst w22
      simp [b__law_ends, Ss.tl, evSs, evS, tst, evv, ev, evs, sizeMax, rg2, srcP, q1, l3, RS.back, len3]
    -- roads one by one
    obtain ⟨E0, S4, m4, g4, P4, hE0, lE0, hm4⟩ : ∃ (E0 : List (Int × Int)) (S4 : Sto) (m4 : Int), evS (O (k + 1)) b__law_ends.tl.tl.tl.tl.hd [some (.loc n), some (.int v), some (.int w), some (.loc S.length), none, none, none, none, none] S2 = .ok .nxt [some (.loc n), some (.int v), some (.int w), some (.loc S.length), none, some (.loc (S.length + 1)), none, none, none] S4 ∧ Pz S n [.lst ((lineE v).map endD), .lst (E0.map endD)] m4 S4 ∧ (∀ p ∈ E0, EndOk v p) ∧ (E0.length : Int) ≤ v - 1 ∧ m4 ≤ m + 2 := by
      have len2 : S2.length = S.length + 1 := P2.len
      by_cases w5 : w < 5
      · obtain ⟨r, S3, e3, ⟨r0, r1⟩, P3⟩ := P2.take draws (k := k) (u := v) (by omega) (by omega)
        have c3 : S3[S.length]? = some (.lst ((lineE v).map endD)) := by simpa using P3.get 0
        have len3 : S3.length = S.length + 1 := P3.len
        have P4 := P3.app (u := [.lst (((lineE v).take r.toNat).map endD)])
        refine ⟨(lineE v).take r.toNat, _, _, ?_, P4, fun p hp => line_ok p (List.mem_of_mem_take hp), by rw [List.length_take, lz]; omega, by omega⟩
        have sl : slcR (.loc S.length) none (some r) S3 = some (.new (((lineE v).take r.toNat).map endD)) := by
          simp only [slcR, sq_loc c3]
          rw [List.map_take, ← slice_take _ r0]
          rfl
        simp [b__law_ends, Ss.tl, Ss.hd, evS, evv, ev, evs, w5, e3, part, isNonE, sl, len3]
      · have P4 := P2.app (u := [.lst []])
        refine ⟨[], _, _, ?_, P4, by simp, by simp; omega, by omega⟩
        simp [b__law_ends, Ss.tl, Ss.hd, evS, evv, ev, evs, w5, sizeMax, len2]
    obtain ⟨r, S5, e5, ⟨r0, r1⟩, P5⟩ := P4.take draws (k := k) (u := v + 1) (by omega) (by omega)
    obtain ⟨env', S', f1, ⟨E, v6, v7, v8, q1, q2, q3, rfl⟩⟩ := turns_all (f := turnF (.nm 6) fun env s => evSs (O (k + 1)) l1__law_ends env s) (h := fun (i : Nat) => D.int (i : Int)) (l := List.range (1 + r).toNat)
      (I := fun i env X => ∃ E v6 v7 v8, Pz S n [.lst ((lineE v).map endD), .lst (E.map endD)] (m4 + 1 + 2 * i) X ∧ (E.length : Int) = E0.length + i ∧ (∀ p ∈ E, EndOk v p) ∧ env = [some (.loc n), some (.int v), some (.int w), some (.loc S.length), none, some (.loc (S.length + 1)), v6, v7, v8])
      (env := [some (.loc n), some (.int v), some (.int w), some (.loc S.length), none, some (.loc (S.length + 1)), none, none, none]) (s := S5) ⟨E0, none, none, none, by simpa using P5, by simp, hE0, rfl⟩ (by
        rintro i a ha env X ⟨E, v6, v7, v8, q1, q2, q3, rfl⟩
        have hi := (List.getElem?_eq_some_iff.mp ha).1
        rw [List.length_range] at hi
        obtain ⟨p, S', v7', v8', z1, z2, z3⟩ := ends_lap (k := k) (w := w) (v3 := some (.loc S.length)) (v4 := none) (v6 := some (.int a)) (v7 := v7) (v8 := v8) q1 (by omega) hv (by omega)
        refine ⟨_, S', by simp only [turnF, bt_nm]; exact z1, E ++ [p], some (.int a), v7', v8', z2.le (by rw [Int.natCast_add]; omega), by simp; omega, fun y hy => ?_, rfl⟩
        rcases List.mem_append.mp hy with hy | hy
        · exact q3 y hy
        · rw [List.mem_singleton.mp hy]
          exact z3)
    rw [List.length_range] at q1 q2
    refine ⟨E, 1, _, S', ?_, q1.le (by omega), rfl, by omega, by omega, q3⟩
    have rgr := rg1 (n := 1 + r) (by omega)
    have s1 : evS (O (k + 1)) b__law_ends.tl.hd [some (.loc n), some (.int v), some (.int w), some (.loc S.length), none, none, none, none, none] S2 = .ok .nxt [some (.loc n), some (.int v), some (.int w), some (.loc S.length), none, none, none, none, none] S2 := by
      simp [b__law_ends, Ss.tl, Ss.hd, evSs, evS, tst, evv, ev, w00]
    have s2 : evS (O (k + 1)) b__law_ends.tl.tl.hd [some (.loc n), some (.int v), some (.int w), some (.loc S.length), none, none, none, none, none] S2 = .ok .nxt [some (.loc n), some (.int v), some (.int w), some (.loc S.length), none, none, none, none, none] S2 := by
      simp [b__law_ends, Ss.tl, Ss.hd, evSs, evS, tst, evv, ev, w11]
    have s3 : evS (O (k + 1)) b__law_ends.tl.tl.tl.hd [some (.loc n), some (.int v), some (.int w), some (.loc S.length), none, none, none, none, none] S2 = .ok .nxt [some (.loc n), some (.int v), some (.int w), some (.loc S.length), none, none, none, none, none] S2 := by
      simp [b__law_ends, Ss.tl, Ss.hd, evSs, evS, tst, evv, ev, w22]
    rw [evSs_step s1, evSs_step s2, evSs_step s3, evSs_step g4]
    simp [b__law_ends, Ss.tl, evSs, evS, evv, evi, ev, evs, e5, rgr, srcP, irange_map, f1, RS.back]
  obtain ⟨E, j, t, S', b1, P', c1, l1, l2, hE⟩ := run
  obtain ⟨S6, e6, P6⟩ := P'.sweepL (j := j) c1 (undL_map fun p _ => by simp)
  refine ⟨E, S6, ?_, P6, l1, l2, hE⟩
  refine (call_eq (fd := d__law_ends) rfl rfl rfl).trans ?_
  rw [runF_back (d := .loc (S.length + j)) (s' := S'), e6]
  rw [← b1]
  show (evSs (O (k + 1)) b__law_ends [some (.loc n), some (.int v), none, none, none, none, none, none, none] S).back = _
  rw [evSs_step g1]
def roadsOf (names spots : List Str) (E : List (Int × Int)) : List Rd := (names.zip E).map fun p => ⟨p.1, spots.getD p.2.1.toNat default, spots.getD p.2.2.toNat default⟩
theorem spot_at {spots : List Str} {i : Int} (h0 : 0 ≤ i) (h1 : i.toNat < spots.length) : item (spots.map .str) i = some (.str (spots.getD i.toNat default)) := by
  rw [item_at h0 (by simp; omega), List.getElem?_map, List.getElem?_eq_getElem h1, List.getD_eq_getElem?_getD, List.getElem?_eq_getElem h1]
  rfl
theorem own_of {names spots : List Str} {E : List (Int × Int)} {v : Int} (h1 : names.length = E.length) (h2 : names.Nodup) (h3 : ∀ x ∈ names, Nm x) (h4 : spots.length = v.toNat) (h5 : spots.Nodup) (h6 : ∀ x ∈ spots, Nm x) (h7 : ∀ p ∈ E, EndOk v p) (h8 : 1 ≤ E.length) (h9 : E.length ≤ 60) : Own (roadsOf names spots E) := by
  have at_ : ∀ i : Int, 0 ≤ i → i < v → ∃ h : i.toNat < spots.length, spots.getD i.toNat default = spots[i.toNat] := fun i a b => by
    have : i.toNat < spots.length := by omega
    exact ⟨this, by rw [List.getD_eq_getElem?_getD, List.getElem?_eq_getElem this]; rfl⟩
  refine ⟨fun r hr => ?_, ?_, ?_, ?_⟩
  · obtain ⟨p, hp, rfl⟩ := List.mem_map.mp hr
    have hp2 := (List.of_mem_zip hp)
    obtain ⟨a1, a2, a3, a4, a5⟩ := h7 p.2 hp2.2
    obtain ⟨g1, e1⟩ := at_ p.2.1 a1 a2
    obtain ⟨g2, e2⟩ := at_ p.2.2 a3 a4
    refine ⟨h3 _ hp2.1, ?_, ?_, ?_⟩
    · show Nm (spots.getD _ _)
      rw [e1]
      exact h6 _ (List.getElem_mem _)
    · show Nm (spots.getD _ _)
      rw [e2]
      exact h6 _ (List.getElem_mem _)
    · show spots.getD _ _ ≠ spots.getD _ _
      rw [e1, e2]
      intro e
      have pw := List.pairwise_iff_getElem.mp h5
      rcases Nat.lt_trichotomy p.2.1.toNat p.2.2.toNat with q | q | q
      · exact pw _ _ g1 g2 q e
      · omega
      · exact pw _ _ g2 g1 q e.symm
  · have : (roadsOf names spots E).map (·.nm) = names := by
      unfold roadsOf
      rw [List.map_map]
      show (names.zip E).map Prod.fst = names
      exact List.map_fst_zip (by omega)
    rw [this]
    exact h2
  · simp [roadsOf, h1]
    exact h9
  · intro e
    have z : (roadsOf names spots E).length = E.length := by simp [roadsOf, h1]
    rw [e] at z
    simp only [List.length_nil] at z
    omega
theorem web_names {o : Orc} {n : Nat} {v u w : Int} {EE SS NN : List Mi.D} {S2 S3 S4 : Sto} (e3 : o f__law_names [.loc n, .int u] S2 = .ok (.flst SS) S3) (hl : b1 .len (.flst EE) S3 = some (.int w)) (e4 : o f__law_names [.loc n, .int w] S3 = .ok (.flst NN) S4) :
    evS o b__law_web.tl.tl.hd [some (.loc n), some (.int v), some (.int u), some (.flst EE), none, none, none, none, none] S2 = .ok .nxt [some (.loc n), some (.int v), some (.int u), some (.flst EE), some (.flst SS), some (.flst NN), none, none, none] S4 := by
  simp [-b1_len_flst, hl, b__law_web, Ss.hd, Ss.tl, evS, evv, ev, evs, e3, e4]
theorem c_law_web {k : Nat} {S : Sto} {n : Nat} {m v : Int} (P : Pz S n [] m S) (hm : m + 10000 < 1099511627000) (hv : 2 ≤ v ∧ v ≤ 12) :
    ∃ (own : List Rd) (S' : Sto), O (k + 4) f__law_web [.loc n, .int v] S = .ok (.flst (own.map Rd.d)) S' ∧ Pz S n [] (m + 10000) S' ∧ Own own ∧ ∀ r ∈ own, r.nm.length ≠ 5 := by
  obtain ⟨r, S1, e1, ⟨r0, r1⟩, P1⟩ := P.take draws (k := k + 2) (u := v - 1) (by omega) (by omega)
  obtain ⟨u, hu⟩ : ∃ u : Int, u = 2 + r := ⟨_, rfl⟩
  obtain ⟨E, S2, e2, P2, l1, l2, hE⟩ := c_ends (k := k + 1) (v := u) P1.here (by omega) (by omega)
  have P2 := P1.out0 P2
  obtain ⟨spots, S3, e3, P3, s1, s2, s3⟩ := c_names (k := k) (v := u) (j := u.toNat) P2.here (by omega) (by omega) (by omega)
  have P3 := P2.out0 P3
  obtain ⟨w, hw⟩ : ∃ w : Int, w = E.length := ⟨_, rfl⟩
  obtain ⟨names, S4, e4, P4, n1, n2, n3⟩ := c_names (k := k) (v := w) (j := E.length) P3.here hw (by omega) (by omega)
  have P4 := P3.out0 P4
  have ow := own_of n1 n2 (fun x h => (n3 x h).1) s1 s2 (fun x h => (s3 x h).1) hE l1 (by omega)
  have ow5 : ∀ r ∈ roadsOf names spots E, r.nm.length ≠ 5 := fun r hr => by
    obtain ⟨p, hp, rfl⟩ := List.mem_map.mp hr
    exact (n3 _ (List.of_mem_zip hp).1).2
  have z : zips (names.map .str) (E.map endD) = (names.zip E).map fun p => .tup [.str p.1, endD p.2] := by
    unfold zips
    rw [List.zip_map, List.map_map]
    rfl
  have lr : mapR (turnC (.tn [.a 6, .b [7, 8]]) [6, 7, 8] [some (.loc n), some (.int v), some (.int u), some (.flst (E.map endD)), some (.flst (spots.map .str)), some (.flst (names.map .str)), none, none, none] fun env s => ev (O (k + 3)) e1__law_web env s) ((names.zip E).map fun p => .tup [.str p.1, endD p.2]) S4 = .ok ((roadsOf names spots E).map Rd.d) S4 := by
    unfold roadsOf
    rw [List.map_map]
    refine mapR_map fun p hp => ?_
    obtain ⟨a1, a2, a3, a4, a5⟩ := hE p.2 (List.of_mem_zip hp).2
    have i1 := spot_at (spots := spots) a1 (by omega)
    have i2 := spot_at (spots := spots) a3 (by omega)
    simp [turnC, bindTg, set1, wipe, e1__law_web, ev, evs, i1, i2, sizeMax, Rd.d]
  have few : (roadsOf names spots E).length ≤ 16777216 := by have := ow.few; omega
  have e5 : runF (O (k + 3)) d__law_web [.loc n, .int v] S = .ok (.loc S4.length) (S4 ++ [.lst ((roadsOf names spots E).map Rd.d)]) := by
    have hl : b1 .len (.flst (E.map endD)) S3 = some (.int w) := by rw [b1_len_flst, List.length_map, ← hw]
    have few2 : ((roadsOf names spots E).map Rd.d).length ≤ 16777216 := by simpa using few
    generalize (roadsOf names spots E).map Rd.d = B at *
    generalize E.map endD = EE at *
    generalize names.map D.str = NN at *
    generalize spots.map D.str = SS at *
    clear hw hE l1 l2 s1 s2 s3 n1 n2 n3 ow ow5 few
    have g1 : evS (O (k + 3)) b__law_web.hd [some (.loc n), some (.int v), none, none, none, none, none, none, none] S = .ok .nxt [some (.loc n), some (.int v), some (.int u), none, none, none, none, none, none] S1 := by
      rw [hu]
      simp [b__law_web, Ss.hd, evS, evv, ev, evs, e1]
    have g2 : evS (O (k + 3)) b__law_web.tl.hd [some (.loc n), some (.int v), some (.int u), none, none, none, none, none, none] S1 = .ok .nxt [some (.loc n), some (.int v), some (.int u), some (.flst EE), none, none, none, none, none] S2 := by
      simp [b__law_web, Ss.hd, Ss.tl, evS, evv, ev, evs, e2]
    have g3 : evS (O (k + 3)) b__law_web.tl.tl.hd [some (.loc n), some (.int v), some (.int u), some (.flst EE), none, none, none, none, none] S2 = .ok .nxt [some (.loc n), some (.int v), some (.int u), some (.flst EE), some (.flst SS), some (.flst NN), none, none, none] S4 := by
      exact web_names e3 hl e4
    refine runF_back ?_
    show (evSs (O (k + 3)) b__law_web [some (.loc n), some (.int v), none, none, none, none, none, none, none] S).back = _
    rw [evSs_step g1, evSs_step g2, evSs_step g3]
    simp [b__law_web, Ss.tl, evSs, evS, evv, ev, zipSrc, lsrc, srcP, z, lr, sizeMax, few2, RS.back]
  obtain ⟨S5, e6, P5⟩ := (P4.app (u := [.lst ((roadsOf names spots E).map Rd.d)])).sweepL (j := 0) rfl (undL_map fun p _ => by simp [Rd.d])
  refine ⟨_, S5, ?_, P5.le (by omega), ow, ow5⟩
  refine (call_eq (fd := d__law_web) rfl rfl rfl).trans ?_
  have l4 : S4.length = S.length := P4.len
  rw [e5, l4]
  exact e6
theorem c_web_text {k : Nat} {s : Sto} {own : List Rd} (h : Own own) : O (k + 1) f__law_web_text [.flst (own.map Rd.d)] s = .ok (.str (webText own)) s := by
  refine (call_eq (fd := d__law_web_text) rfl rfl rfl).trans ?_
  obtain ⟨u, m⟩ := mapR_grow (f := turnC (.nm 1) [1] [some (.flst (own.map Rd.d)), none] fun env s => ev (O k) e1__law_web_text env s) (h := Rd.d) (g := fun r => D.str r.line) (s := s) (l := own) (t := []) (fun r hr t => by
    have ok := h.ok r hr
    refine ⟨[.lst [.str r.nm, .str r.fr, .str r.to]], ?_⟩
    have jf := join_fits (ys := [r.nm, r.fr, r.to]) (a := sp) (n := 3) (B := 8) (fun p hp => by
      simp only [List.mem_cons, List.not_mem_nil, or_false] at hp
      rcases hp with rfl | rfl | rfl
      · exact ok.nm.few
      · exact ok.fr.few
      · exact ok.to.few) (by simp) (Nat.le_of_eq sp_len) (by decide)
    have sq1 : sq (.loc (s ++ t).length) (s ++ t ++ [.lst [.str r.nm, .str r.fr, .str r.to]]) = some (false, [.str r.nm, .str r.fr, .str r.to]) := sq_loc app_end
    have jn : mthR .join (.str " ") [.loc (s ++ t).length] (s ++ t ++ [.lst [.str r.nm, .str r.fr, .str r.to]]) = some (.val (.str (Txt.join sp [r.nm, r.fr, r.to])), s ++ t ++ [.lst [.str r.nm, .str r.fr, .str r.to]]) := join_mth (a := sp) sq1 (strsOf_map [r.nm, r.fr, r.to]) jf.1
    generalize s ++ t = S at *
    have l1 : (Txt.join sp [r.nm, r.fr, r.to]).length ≤ 1000 := by
      rw [TL.join_eq]
      have z := StrLaws.join_length_le sp [r.nm, r.fr, r.to]
      have a1 := ok.nm.few
      have a2 := ok.fr.few
      have a3 := ok.to.few
      rw [sp_len] at z
      simp only [List.map_cons, List.map_nil, List.sum_cons, List.sum_nil, List.length_cons, List.length_nil] at z
      omega
    have l2 : ("road " : Str).length = 5 := by decide +kernel
    have bs := bin_strs (a := ("road " : Str)) (b := Txt.join sp [r.nm, r.fr, r.to]) (by rw [l2]; omega) (S ++ [.lst [.str r.nm, .str r.fr, .str r.to]])
    have ln : ("road " : Str) ++ Txt.join sp [r.nm, r.fr, r.to] = r.line := by
      unfold Rd.line Rd.ws
      rw [TL.join_eq, TL.join_eq]
      apply TL.ext_tl
      show TL.tl (("road " : Str) ++ Str.join sp [r.nm, r.fr, r.to]) = TL.tl (rdW ++ sp ++ Str.join sp [r.nm, r.fr, r.to])
      rw [TL.tl_append, TL.tl_append, TL.tl_append]
      have : TL.tl ("road " : Str) = TL.tl rdW ++ TL.tl sp := by decide +kernel
      rw [this]
    rw [ln] at bs
    simp [turnC, wipe, Rd.d, e1__law_web_text, ev, evs, mtTy, Mt.isStr, sqP, jn, bs])
  have e : runF (O k) d__law_web_text [.flst (own.map Rd.d)] s = .ok (.str (webText own)) (s ++ (u ++ [.lst (own.map fun r => D.str r.line)])) := by
    have few : own.length ≤ 16777216 := by have := h.few; omega
    have sq1 : sq (.loc (s ++ u).length) (s ++ u ++ [.lst (own.map fun r => D.str r.line)]) = some (false, own.map fun r => D.str r.line) := sq_loc app_end
    have st : strsOf (own.map fun r => D.str r.line) = some (own.map Rd.line) := by rw [← strsOf_map, List.map_map]; rfl
    have jn : mthR .join (.str "\n") [.loc (s ++ u).length] (s ++ u ++ [.lst (own.map fun r => D.str r.line)]) = some (.val (.str (webText own)), s ++ u ++ [.lst (own.map fun r => D.str r.line)]) := join_mth (a := nl) sq1 st h.fits.1
    rw [List.append_nil] at m
    rw [← List.append_assoc]
    generalize hS : s ++ u = S at *
    simp [runF, d__law_web_text, b__law_web_text, evSs, evS, evv, ev, evs, mtTy, Mt.isStr, srcP, m, sizeMax, few, jn]
  rw [e]
  exact sweep_val rfl
end K01

namespace K01
open PySem Mi
/-- is it a name, its letters looked at -/
def nameB (x : Str) : Bool := decide (1 ≤ x.length) && decide (x.length ≤ 8) && x.cps.toList.all fun c => inStr ⟨#[c]⟩ LETT
theorem nameB_nm {x : Str} (h : Nm x) : nameB x = true := by
  unfold nameB
  rw [decide_eq_true h.one, decide_eq_true h.few, Bool.true_and, Bool.true_and, List.all_eq_true]
  exact fun c hc => in_abc (h.abc c hc)
theorem c_is_nameG {k : Nat} {s : Sto} {x : Str} (hx : x.length ≤ 1000000) : O (k + 1) f_is_name [.str x] s = .ok (.bl (nameB x)) s := by
  refine (call_eq (fd := d_is_name) rfl rfl rfl).trans ?_
  have l := b1_len_str (x := x) (by omega)
  have m : mapR (turnC (.nm 1) [1] [some (.str x), none] fun env s => ev (O k) e1_is_name env s) (chars x) s = .ok (x.cps.toList.map fun c => .bl (inStr ⟨#[c]⟩ LETT)) s := mapR_map fun c hc => by
    simp only [turnC, wipe, e1_is_name, g_LETTERS, ev]
    simp [cmpop, inR]
    rfl
  have n : x.cps.size ≤ 16777216 := by
    unfold Str.length at hx
    omega
  have bo := boolsOf_map x.cps.toList fun c => inStr ⟨#[c]⟩ LETT
  have ba : bq .all false (x.cps.toList.map fun c => Mi.D.bl (inStr ⟨#[c]⟩ LETT)) = some (.bl (x.cps.toList.all fun c => inStr ⟨#[c]⟩ LETT)) := by
    show (boolsOf (x.cps.toList.map fun c => Mi.D.bl (inStr ⟨#[c]⟩ LETT))).map (fun bs => Mi.D.bl (bs.all id)) = _
    rw [bo, Option.map_some, List.all_map]
    rfl
  have : runF (O k) d_is_name [.str x] s = .ok (.bl (nameB x)) s := by
    unfold nameB
    generalize (x.cps.toList.all fun c => inStr ⟨#[c]⟩ LETT) = al at *
    generalize hAA : (x.cps.toList.map fun c => Mi.D.bl (inStr ⟨#[c]⟩ LETT)) = AA at *
    have fa : AA.length ≤ 16777216 := by rw [← hAA, List.length_map]; exact n
    by_cases h1 : 1 ≤ x.length
    · have h1' : (1 : Int) ≤ (x.length : Int) := by omega
      by_cases h2 : x.length ≤ 8
      · have h2' : (x.length : Int) ≤ 8 := by omega
        simp [runF, d_is_name, b_is_name, evSs, evS, evv, tst_or, tst_or1, tst_not]
        simp [tst, ev, isTy, l, h1, h1', h2, h2', g_MOST_LETTERS, srcP, m, sizeMax, fa, sqP, ba]
      · have h2' : ¬ (x.length : Int) ≤ 8 := by omega
        simp [runF, d_is_name, b_is_name, evSs, evS, evv, tst_or, tst_or1, tst_not]
        simp [tst, ev, isTy, l, h1, h1', h2, h2', g_MOST_LETTERS]
    · have h1' : ¬ (1 : Int) ≤ (x.length : Int) := by omega
      simp [runF, d_is_name, b_is_name, evSs, evS, evv, tst_or, tst_or1, tst_not]
      simp [tst, ev, isTy, l, h1, h1', g_MOST_LETTERS]
  rw [this]
  exact sweep_same rfl
/-- a line's words, as a road -/
def wordsR : List Str → Option Rd
  | [a, b, c, d] => if a = rdW ∧ nameB b = true ∧ nameB c = true ∧ nameB d = true ∧ c ≠ d then some ⟨b, c, d⟩ else none
  | _ => none
def optD : Option Rd → Mi.D
  | some r => r.d
  | none => .non
theorem c_road_inG {k : Nat} {s : Sto} {x : Str} {ws : List Str} (e : Txt.split x sp = ws) (h : x.length + 2 ≤ sizeMax) (hw : ∀ y ∈ ws, y.length ≤ 1000000) (hl : ws.length ≤ 1000000) (h0 : ws ≠ []) : O (k + 2) f_road_in [.str x] s = .ok (optD (wordsR ws)) s := by
  refine (call_eq (fd := d_road_in) rfl rfl rfl).trans ?_
  have w : O (k + 1) f_words_in [.str x] s = .ok (.flst (ws.map .str)) s := c_words_in e h
  have out : ∀ d : Mi.D, runF (O (k + 1)) d_road_in [.str x] s = .ok d s → d.und s.length = true → sweep s (runF (O (k + 1)) d_road_in [.str x] s) = .ok d s := fun d hd hu => by
    rw [hd]
    exact sweep_same hu
  have q1 : rdW = "road" := rfl
  by_cases c4 : ws.length = 4
  · obtain ⟨a, b, c, d, rfl⟩ : ∃ a b c d, ws = [a, b, c, d] := by
      match ws, c4 with
      | [a, b, c, d], _ => exact ⟨a, b, c, d, rfl⟩
    have m : mapR (turnC (.nm 2) [2] [some (.str x), some (.flst [.str a, .str b, .str c, .str d]), none] fun env s => ev (O (k + 1)) e1_road_in env s) [.str b, .str c, .str d] s = .ok [.bl (nameB b), .bl (nameB c), .bl (nameB d)] s := by
      have := mapR_map (f := turnC (.nm 2) [2] [some (.str x), some (.flst [.str a, .str b, .str c, .str d]), none] fun env s => ev (O (k + 1)) e1_road_in env s) (h := D.str) (g := fun y => D.bl (nameB y)) (s := s) (l := [b, c, d]) (fun y hy => by
        have nx := c_is_nameG (k := k) (s := s) (hw y (List.mem_cons_of_mem _ hy))
        simp [turnC, wipe, e1_road_in, ev, evs, nx])
      exact this
    have w' : O (k + 1) f_words_in [.str x] s = .ok (.flst [.str a, .str b, .str c, .str d]) s := w
    show _ = Mi.R.ok (optD (if a = rdW ∧ nameB b = true ∧ nameB c = true ∧ nameB d = true ∧ c ≠ d then some ⟨b, c, d⟩ else none)) s
    clear w
    rw [q1]
    generalize nameB b = nb at *
    generalize nameB c = nc at *
    generalize nameB d = nd at *
    by_cases c1 : a = ("road" : Str)
    · subst c1
      by_cases cn : nb = true ∧ nc = true ∧ nd = true
      · obtain ⟨rfl, rfl, rfl⟩ := cn
        by_cases cd : c = d
        · rw [if_neg (by simp [cd])]
          refine out _ ?_ rfl
          subst cd
          simp [runF, d_road_in, b_road_in, evSs, evS, evv, tst_or, tst_or1, tst_not, ev, evs, w']
          simp [tst, ev, g_LINE_WORDS, g_ROAD, item3, srcP, slice_tail, part, isNonE, m, sizeMax, sqP, bq, boolsOf, optD]
        · rw [if_pos ⟨rfl, rfl, rfl, rfl, cd⟩]
          refine out _ ?_ (by simp [optD, Rd.d])
          simp [runF, d_road_in, b_road_in, evSs, evS, evv, tst_or, tst_or1, tst_not, ev, evs, w']
          simp [tst, ev, g_LINE_WORDS, g_ROAD, item3, srcP, slice_tail, part, isNonE, m, sizeMax, sqP, bq, boolsOf, cd, optD, Rd.d]
      · rw [if_neg (fun z => cn ⟨z.2.1, z.2.2.1, z.2.2.2.1⟩)]
        refine out _ ?_ rfl
        have al : bq .all false [Mi.D.bl nb, .bl nc, .bl nd] = some (.bl false) := by
          cases nb <;> cases nc <;> cases nd <;> first | exact absurd ⟨rfl, rfl, rfl⟩ cn | rfl
        simp [runF, d_road_in, b_road_in, evSs, evS, evv, tst_or, tst_or1, tst_not, ev, evs, w']
        simp [tst, ev, g_LINE_WORDS, g_ROAD, item3, srcP, slice_tail, part, isNonE, m, sizeMax, sqP, al, optD]
    · rw [if_neg (fun z => c1 z.1)]
      refine out _ ?_ rfl
      simp [runF, d_road_in, b_road_in, evSs, evS, evv, tst_or, tst_or1, tst_not, ev, evs, w']
      simp [tst, ev, g_LINE_WORDS, g_ROAD, item3, c1, optD]
  · have n : wordsR ws = none := by
      unfold wordsR
      split
      · exact absurd rfl c4
      · rfl
    rw [n]
    refine out _ ?_ rfl
    have c4' : ¬ (ws.length : Int) = 4 := by omega
    simp [runF, d_road_in, b_road_in, evSs, evS, evv, tst_or, tst_or1, tst_not, ev, evs, w]
    simp [tst, ev, g_LINE_WORDS, c4', optD]
end K01

namespace K01
open PySem Mi
theorem c_road_in {k : Nat} {s : Sto} {r : Rd} (h : r.Ok) : O (k + 2) f_road_in [.str r.line] s = .ok r.d s := by
  refine (call_eq (fd := d_road_in) rfl rfl rfl).trans ?_
  have w : O (k + 1) f_words_in [.str r.line] s = .ok (.flst [.str rdW, .str r.nm, .str r.fr, .str r.to]) s := c_words_in h.split (by have := h.fits.2; unfold sizeMax; omega)
  have m : mapR (turnC (.nm 2) [2] [some (.str r.line), some (.flst [.str rdW, .str r.nm, .str r.fr, .str r.to]), none] fun env s => ev (O (k + 1)) e1_road_in env s) [.str r.nm, .str r.fr, .str r.to] s = .ok [.bl true, .bl true, .bl true] s := by
    have := mapR_map (f := turnC (.nm 2) [2] [some (.str r.line), some (.flst [.str rdW, .str r.nm, .str r.fr, .str r.to]), none] fun env s => ev (O (k + 1)) e1_road_in env s) (h := D.str) (g := fun _ => D.bl true) (s := s) (l := [r.nm, r.fr, r.to]) (fun x hx => by
      have nx : Nm x := by
        simp only [List.mem_cons, List.not_mem_nil, or_false] at hx
        rcases hx with rfl | rfl | rfl
        · exact h.nm
        · exact h.fr
        · exact h.to
      simp [turnC, wipe, e1_road_in, ev, evs, c_is_name nx])
    exact this
  have e : runF (O (k + 1)) d_road_in [.str r.line] s = .ok r.d s := by
    have q1 : rdW = "road" := rfl
    rw [q1] at w m
    simp [runF, d_road_in, b_road_in, evSs, evS, evv, tst_or, tst_or1, tst_not, ev, evs, w]
    simp [tst, ev, g_LINE_WORDS, g_ROAD, item3, srcP, slice_tail, part, isNonE, m, sizeMax, sqP, bq, boolsOf, h.ne, Rd.d]
  rw [e]
  exact sweep_same (by simp [Rd.d])
theorem enums_map {α : Type} (l : List α) (g : α → D) : enums (l.map g) = l.zipIdx.map fun p => .tup [.int (p.2 : Int), g p.1] := by
  unfold enums
  rw [List.zipIdx_map, List.map_map]
  rfl
/-- a web, read -/
def endsD (own : List Rd) : D := .fdk (own.map fun r => .inr r.nm) (own.map Rd.e)
theorem kPut_new {own : List Rd} {r : Rd} (h : r.nm ∉ own.map (·.nm)) : kPut (own.map fun q => ((.inr q.nm : Ky), q.e)) (.inr r.nm) r.e = (own ++ [r]).map fun q => ((.inr q.nm : Ky), q.e) := by
  unfold kPut
  rw [if_neg]
  · simp
  · intro e
    obtain ⟨x, hx, e2⟩ := List.any_eq_true.mp e
    obtain ⟨q, hq, rfl⟩ := List.mem_map.mp hx
    have : q.nm = r.nm := by simpa using e2
    exact h (by rw [← this]; exact List.mem_map_of_mem hq)
theorem turns_pre {α : Type} {f : Mi.D → Mi.Env → Sto → Mi.RS} {h : α → Mi.D} (I : Nat → Mi.Env → Sto → Prop) : ∀ (l : List α) (i : Nat) (env : Mi.Env) (s : Sto), I i env s → (∀ j x, l[j]? = some x → ∀ env s, I (i + j) env s → ∃ env' s', f (h x) env s = .ok .nxt env' s' ∧ I (i + j + 1) env' s') →
    ∃ env' s', I (i + l.length) env' s' ∧ ∀ l2, turns f (l.map h ++ l2) env s = turns f l2 env' s'
  | [], i, env, s, h0, _ => ⟨env, s, h0, fun l2 => rfl⟩
  | a :: l, i, env, s, h0, st => by
    obtain ⟨env1, s1, e1, h1⟩ := st 0 a rfl env s h0
    obtain ⟨env2, s2, h2, e2⟩ := turns_pre I l (i + 1) env1 s1 h1 fun j x hx env s hi => by
      have := st (j + 1) x (by simpa using hx) env s (by rw [show i + (j + 1) = i + 1 + j by omega]; exact hi)
      rw [show i + (j + 1) + 1 = i + 1 + j + 1 by omega] at this
      exact this
    refine ⟨env2, s2, by rw [List.length_cons, show i + (l.length + 1) = i + 1 + l.length by omega]; exact h2, fun l2 => ?_⟩
    rw [List.map_cons, List.cons_append, turns, e1]
    exact e2 l2
theorem c_read_bad {k : Nat} {s : Sto} {x bad : Str} {goods : List Rd} {ws rest : List Str} (e : Txt.split x nl = goods.map Rd.line ++ bad :: rest) (hx : x.length + 2 ≤ sizeMax) (hg : ∀ r ∈ goods, r.Ok) (hu : (goods.map (·.nm)).Nodup) (hf : goods.length ≤ 60)
    (eb : Txt.split bad sp = ws) (hb : bad.length + 2 ≤ sizeMax) (hw : ∀ y ∈ ws, y.length ≤ 1000000) (hl : ws.length ≤ 1000000) (h0 : ws ≠ [])
    (why : goods.length = 60 ∨ wordsR ws = none ∨ ∃ r, wordsR ws = some r ∧ r.nm ∈ goods.map (·.nm)) :
    ∃ K, O (k + 3) f_read_web [.str x] s = .ex "BadWeb" (.int ((goods.length : Int) + 1)) (s ++ [.dk K]) := by
  have w : O (k + 2) f_lines_in [.str x] (s ++ [.dk []]) = .ok (.flst ((goods.map Rd.line ++ bad :: rest).map .str)) (s ++ [.dk []]) := c_lines_in e hx
  obtain ⟨env', s', ⟨e2, a, b, c, rfl⟩, e1⟩ := turns_pre (f := turnF (.tp [2, 3]) fun env s => evSs (O (k + 2)) l1_read_web env s) (h := fun p : Rd × Nat => D.tup [.int (p.2 : Int), .str p.1.line])
    (fun i env S => S = s ++ [.dk ((goods.take i).map fun q => ((.inr q.nm : Ky), q.e))] ∧ ∃ a b c, env = [some (.str x), some (.loc s.length), a, b, c]) goods.zipIdx 0 [some (.str x), some (.loc s.length), none, none, none] (s ++ [.dk []]) ⟨by simp, _, _, _, rfl⟩ (by
      rintro i ⟨r, j⟩ hi env S ⟨rfl, a, b, c, rfl⟩
      simp only [List.getElem?_zipIdx, Nat.zero_add] at hi ⊢
      obtain ⟨r', hr, hp⟩ := Option.map_eq_some_iff.mp hi
      simp only [Prod.mk.injEq] at hp
      obtain ⟨rfl, rfl⟩ := hp
      have hi := (List.getElem?_eq_some_iff.mp hr).1
      have mem : r' ∈ goods := List.mem_of_getElem? hr
      have hj : (i : Int) < 60 := by omega
      have tk : goods.take (i + 1) = goods.take i ++ [r'] := by
        rw [List.take_add_one, hr]
        rfl
      have nn : r'.nm ∉ (goods.take i).map (·.nm) := by
        have u := hu
        rw [← List.take_append_drop i goods, List.map_append, List.nodup_append] at u
        intro q
        have mem2 : r' ∈ goods.drop i := List.mem_of_getElem? (i := 0) (by rw [List.getElem?_drop]; simpa using hr)
        exact u.2.2 _ q r'.nm (List.mem_map_of_mem mem2) rfl
      have kg : kGet ((goods.take i).map fun q => ((.inr q.nm : Ky), q.e)) (.inr r'.nm) = none := by
        rw [kGet_road]
        cases q : road (goods.take i) r'.nm with
        | none => rfl
        | some z =>
          have := road_some q
          exact absurd (List.mem_map_of_mem (f := (·.nm)) this.1) (by rw [this.2]; exact nn)
      have few : ((goods.take i).map fun q => ((.inr q.nm : Ky), q.e)).length < sizeMax := by simp [sizeMax]; omega
      have kp := kPut_new nn
      rw [← tk] at kp
      refine ⟨[some (.str x), some (.loc s.length), some (.int i), some (.str r'.line), some r'.d], s ++ [.dk ((goods.take (i + 1)).map fun q => ((.inr q.nm : Ky), q.e))], ?_, rfl, _, _, _, rfl⟩
      generalize ((goods.take i).map fun q => ((.inr q.nm : Ky), q.e)) = K at *
      generalize ((goods.take (i + 1)).map fun q => ((.inr q.nm : Ky), q.e)) = K' at *
      have d0 : (s ++ [Cell.dk K])[s.length]? = some (.dk K) := by simp
      have rd := c_road_in (k := k) (s := s ++ [Cell.dk K]) (hg r' mem)
      have i1 := in_dk d0 r'.nm
      have p1 := put_dk d0 r'.nm r'.e few
      rw [kg] at i1
      rw [kp] at p1
      have st : (s ++ [Cell.dk K]).set s.length (.dk K') = s ++ [.dk K'] := by simp
      rw [st] at p1
      simp [turnF, l1_read_web, evSs, evS, evv, tst_or, tst_or1]
      simp [ev, evs, g_MOST_ROADS, hj, rd, tst, Rd.d, i1, slice_tail, part, isNonE]
      rw [show D.tup [.str r'.fr, .str r'.to] = r'.e from rfl, p1])
  have tk : goods.take (0 + goods.zipIdx.length) = goods := by simp
  rw [tk] at e2
  subst e2
  obtain ⟨K, hK⟩ : ∃ K, (goods.map fun q => ((.inr q.nm : Ky), q.e)) = K := ⟨_, rfl⟩
  rw [hK] at e1
  have d0 : (s ++ [Cell.dk K])[s.length]? = some (.dk K) := by simp
  have rd := c_road_inG (k := k) (s := s ++ [Cell.dk K]) eb hb hw hl h0
  have last : ∃ env', turnF (.tp [2, 3]) (fun env s => evSs (O (k + 2)) l1_read_web env s) (.tup [.int (goods.length : Int), .str bad]) [some (.str x), some (.loc s.length), a, b, c] (s ++ [.dk K]) = .ex "BadWeb" (.int ((goods.length : Int) + 1)) env' (s ++ [.dk K]) := by
    rcases why with h | h | ⟨r, h1, h2⟩
    · rw [h]
      refine ⟨[some (.str x), some (.loc s.length), some (.int 60), some (.str bad), some .non], ?_⟩
      have lt : ¬ ((60 : Nat) : Int) < 60 := by decide
      simp [turnF, l1_read_web, evSs, evS, evv, tst_or, tst_or1]
      simp [ev, evs, g_MOST_ROADS, tst, evSs, evS, evv]
    · rw [h] at rd
      have rd' : O (k + 2) f_road_in [.str bad] (s ++ [Cell.dk K]) = .ok .non (s ++ [Cell.dk K]) := rd
      by_cases lt : (goods.length : Int) < 60
      · refine ⟨[some (.str x), some (.loc s.length), some (.int (goods.length : Int)), some (.str bad), some .non], ?_⟩
        clear e1
        generalize (goods.length : Int) = gl at *
        simp [turnF, l1_read_web, evSs, evS, evv, tst_or, tst_or1]
        simp [ev, evs, g_MOST_ROADS, tst, lt, rd', evSs, evS, evv]
      · refine ⟨[some (.str x), some (.loc s.length), some (.int (goods.length : Int)), some (.str bad), some .non], ?_⟩
        clear e1
        generalize (goods.length : Int) = gl at *
        simp [turnF, l1_read_web, evSs, evS, evv, tst_or, tst_or1]
        simp [ev, evs, g_MOST_ROADS, tst, lt, evSs, evS, evv]
    · rw [h1] at rd
      have rd' : O (k + 2) f_road_in [.str bad] (s ++ [Cell.dk K]) = .ok (.tup [.str r.nm, .str r.fr, .str r.to]) (s ++ [Cell.dk K]) := rd
      have kg : (kGet K (.inr r.nm)).isSome = true := by
        rw [← hK, kGet_road]
        cases q : road goods r.nm with
        | some z => rfl
        | none =>
          obtain ⟨z, hz, ez⟩ := List.mem_map.mp h2
          exact absurd q (by
            intro q
            have := List.find?_eq_none.mp q z hz
            simp [ez] at this)
      have i1 := in_dk d0 r.nm
      rw [kg] at i1
      by_cases lt : (goods.length : Int) < 60
      · refine ⟨[some (.str x), some (.loc s.length), some (.int (goods.length : Int)), some (.str bad), some (.tup [.str r.nm, .str r.fr, .str r.to])], ?_⟩
        clear e1
        generalize (goods.length : Int) = gl at *
        simp [turnF, l1_read_web, evSs, evS, evv, tst_or, tst_or1]
        simp [ev, evs, g_MOST_ROADS, tst, lt, rd', i1, evSs, evS, evv]
      · refine ⟨[some (.str x), some (.loc s.length), some (.int (goods.length : Int)), some (.str bad), some .non], ?_⟩
        clear e1
        generalize (goods.length : Int) = gl at *
        simp [turnF, l1_read_web, evSs, evS, evv, tst_or, tst_or1]
        simp [ev, evs, g_MOST_ROADS, tst, lt, evSs, evS, evv]
  obtain ⟨env', last⟩ := last
  refine ⟨K, ?_⟩
  have st : O (k + 3) f_read_web [.str x] s = sweep s (runF (O (k + 2)) d_read_web [.str x] s) := call_eq (fd := d_read_web) rfl rfl rfl
  have el : enums ((goods.map Rd.line ++ bad :: rest).map .str) = goods.zipIdx.map (fun p : Rd × Nat => D.tup [.int (p.2 : Int), .str p.1.line]) ++ (.tup [.int (goods.length : Int), .str bad] :: (rest.zipIdx (goods.length + 1)).map fun p : Str × Nat => D.tup [.int (p.2 : Int), .str p.1]) := by
    rw [enums_map, List.zipIdx_append, List.map_append, List.zipIdx_map, List.map_map, List.length_map, List.zipIdx_cons, List.map_cons, Nat.zero_add]
    rfl
  have e : runF (O (k + 2)) d_read_web [.str x] s = .ex "BadWeb" (.int ((goods.length : Int) + 1)) (s ++ [.dk K]) := by
    have e3 := e1 (.tup [.int (goods.length : Int), .str bad] :: (rest.zipIdx (goods.length + 1)).map fun p : Str × Nat => D.tup [.int (p.2 : Int), .str p.1])
    rw [← el, turns, last] at e3
    clear e1 last el
    generalize ((goods.map Rd.line ++ bad :: rest).map D.str) = LL at *
    generalize (goods.length : Int) = gl at *
    simp [runF, d_read_web, b_read_web, evSs, evS, evv, tst_not, evi]
    simp [tst, ev, evs, isTy, w, esrc, lsrc, srcP, e3]
  rw [st, e]
  rfl
end K01

namespace K01
open PySem Mi
theorem c_init_ex {k : Nat} {s t : Sto} {d v : Mi.D} (h : O (k + 3) f_read_web [d] (s ++ [.ins "Web" []]) = .ex "BadWeb" v (s ++ [.ins "Web" []] ++ t)) : O (k + 4) f_Web___init__ [d] s = .ex "BadWeb" v (s ++ ([.ins "Web" []] ++ t)) := by
  show callN T.fdef keep (k + 3 + 1) f_Web___init__ [d] s = _
  rw [callN]
  have hF : T.fdef f_Web___init__ = some d_Web___init__ := rfl
  rw [hF]
  have rf : runF (O (k + 3)) d_Web___init__ [.loc s.length, d] (s ++ [.ins "Web" []]) = .ex "BadWeb" v (s ++ [.ins "Web" []] ++ t) := by
    generalize O (k + 3) = o at *
    generalize s ++ [.ins "Web" []] ++ t = S' at *
    simp [runF, d_Web___init__, b_Web___init__, evSs, evS, evv, ev, evs, h]
  have rm : runX (O (k + 3)) d_Web___init__ [d] s = .ex "BadWeb" v (s ++ [.ins "Web" []] ++ t) := by
    show (match runF (O (k + 3)) d_Web___init__ [.loc s.length, d] (s ++ [.ins "Web" []]) with
      | .ok .non s' => Mi.R.ok (Mi.D.loc s.length) s'
      | .ex c v s' => .ex c v s'
      | _ => .no) = _
    rw [rf]
  show (if keep f_Web___init__ = true then runX (O (k + 3)) d_Web___init__ [d] s else sweep s (runX (O (k + 3)) d_Web___init__ [d] s)) = _
  rw [rm, List.append_assoc]
  rfl
/-- what is no text -/
theorem c_read_odd {k : Nat} {s : Sto} {d : Mi.D} (h : isTyR .str d s = some false) : O (k + 3) f_read_web [d] s = .ex "BadWeb" (.int 0) s := by
  have st : O (k + 3) f_read_web [d] s = sweep s (runF (O (k + 2)) d_read_web [d] s) := call_eq (fd := d_read_web) rfl rfl rfl
  have b : b1 (.isi .str) d s = some (.bl false) := by
    unfold b1
    simp [h]
  have e : runF (O (k + 2)) d_read_web [d] s = .ex "BadWeb" (.int 0) s := by
    generalize O (k + 2) = o at *
    simp [runF, d_read_web, b_read_web, evSs, evS, evv, tst_not]
    simp [tst, ev, b, evSs, evS, evv]
  rw [st, e]
  rfl
theorem c_heard {k m : Nat} {ds : List Mi.D} {s t : Sto} {n : Int} (h : O (k + 1) m ds s = .ex "BadWeb" (.int n) (s ++ t)) : O (k + 2) f__law_heard [.clo m ds] s = .ok (.exc "BadWeb" (.int n)) s := by
  have st : O (k + 2) f__law_heard [.clo m ds] s = sweep s (runF (O (k + 1)) d__law_heard [.clo m ds] s) := call_eq (fd := d__law_heard) rfl rfl rfl
  have e : runF (O (k + 1)) d__law_heard [.clo m ds] s = .ok (.exc "BadWeb" (.int n)) (s ++ t) := by
    generalize O (k + 1) = o at *
    generalize s ++ t = S' at *
    simp [runF, d__law_heard, b__law_heard, evSs, evS, evv, ev, h]
  rw [st, e]
  exact sweep_val rfl
theorem c_lam1 {k : Nat} {s t : Sto} {d v : Mi.D} (h : O (k + 4) f_Web___init__ [d] s = .ex "BadWeb" v (s ++ t)) : O (k + 5) m1__law_right [d] s = .ex "BadWeb" v (s ++ t) := by
  have st : O (k + 5) m1__law_right [d] s = sweep s (runF (O (k + 4)) (LamRow.fd ⟨["text"], la1__law_right⟩) [d] s) := call_eq (fd := LamRow.fd ⟨["text"], la1__law_right⟩) rfl rfl rfl
  have e : runF (O (k + 4)) (LamRow.fd ⟨["text"], la1__law_right⟩) [d] s = .ex "BadWeb" v (s ++ t) := by
    generalize O (k + 4) = o at *
    generalize s ++ t = S' at *
    simp [runF, LamRow.fd, la1__law_right, evSs, evS, evv, ev, evs, h]
  rw [st, e]
  rfl
theorem c_lam2 {k : Nat} {s t : Sto} {d v : Mi.D} (h : O (k + 4) f_Web___init__ [d] s = .ex "BadWeb" v (s ++ t)) : O (k + 5) m2__law_right [d] s = .ex "BadWeb" v (s ++ t) := by
  have st : O (k + 5) m2__law_right [d] s = sweep s (runF (O (k + 4)) (LamRow.fd ⟨["value"], la2__law_right⟩) [d] s) := call_eq (fd := LamRow.fd ⟨["value"], la2__law_right⟩) rfl rfl rfl
  have e : runF (O (k + 4)) (LamRow.fd ⟨["value"], la2__law_right⟩) [d] s = .ex "BadWeb" v (s ++ t) := by
    generalize O (k + 4) = o at *
    generalize s ++ t = S' at *
    simp [runF, LamRow.fd, la2__law_right, evSs, evS, evv, ev, evs, h]
  rw [st, e]
  rfl
theorem c_lam3 {k : Nat} {s t : Sto} {ls : List Str} {v : Mi.D} (jn : mthR .join (.str "\n") [.flst (ls.map .str)] s = some (.val (.str (Txt.join nl ls)), s)) (h : O (k + 4) f_Web___init__ [.str (Txt.join nl ls)] s = .ex "BadWeb" v (s ++ t)) : O (k + 5) m3__law_right [.flst (ls.map .str)] s = .ex "BadWeb" v (s ++ t) := by
  have st : O (k + 5) m3__law_right [.flst (ls.map .str)] s = sweep s (runF (O (k + 4)) (LamRow.fd ⟨["lines"], la3__law_right⟩) [.flst (ls.map .str)] s) := call_eq (fd := LamRow.fd ⟨["lines"], la3__law_right⟩) rfl rfl rfl
  have e : runF (O (k + 4)) (LamRow.fd ⟨["lines"], la3__law_right⟩) [.flst (ls.map .str)] s = .ex "BadWeb" v (s ++ t) := by
    generalize O (k + 4) = o at *
    generalize s ++ t = S' at *
    generalize ls.map Mi.D.str = LL at *
    simp [runF, LamRow.fd, la3__law_right, evSs, evS, evv, ev, evs, mtTy, Mt.isStr, jn, h]
  rw [st, e]
  rfl
/-- lines that are no web's: which is the first bad one -/
structure BadTx (lines : List Str) (due : Int) : Prop where
  parts : ∃ (goods : List Rd) (bad : Str) (rest : List Str), lines = goods.map Rd.line ++ bad :: rest ∧ (∀ r ∈ goods, r.Ok) ∧ (goods.map (·.nm)).Nodup ∧ goods.length ≤ 60 ∧ (∀ y ∈ Txt.split bad sp, y.length ≤ 1000) ∧ (Txt.split bad sp).length ≤ 1000 ∧ Txt.split bad sp ≠ [] ∧
    (goods.length = 60 ∨ wordsR (Txt.split bad sp) = none ∨ ∃ r, wordsR (Txt.split bad sp) = some r ∧ r.nm ∈ goods.map (·.nm)) ∧ due = (goods.length : Int) + 1
  small : ∀ l ∈ lines, 10 ∉ TL.tl l ∧ l.length ≤ 100
  few : lines.length ≤ 200
end K01

namespace K01
open PySem Mi
theorem small_repr {v : Int} (h : -1000000 ≤ v ∧ v ≤ 1000000) (s : Sto) : b1 .repr (.int v) s = some (.str (PyData.shown (.int v))) := repr_int (lg62 (by omega)) (by decide) (by decide) s
theorem heard_lines {k : Nat} {s : Sto} {lines : List Str} {due : Int} (B : BadTx lines due) : O (k + 6) f__law_heard [.clo m3__law_right [.flst (lines.map .str)]] s = .ok (.exc "BadWeb" (.int due)) s := by
  obtain ⟨goods, bad, rest, e1, hg, hu, hf, hw, hl, h0, why, rfl⟩ := B.parts
  have jf := join_fits (ys := lines) (a := nl) (n := 200) (B := 100) (fun y hy => (B.small y hy).2) B.few (Nat.le_of_eq (by decide +kernel)) (by decide)
  have sp := split_nl (ps := lines) (by rw [e1]; simp) fun p hp => (B.small p hp).1
  have jn := join_mth (d := .flst (lines.map .str)) (s := s) (q := false) (a := nl) rfl (strsOf_map lines) jf.1
  have jn' : mthR .join (.str "\n") [.flst (lines.map .str)] s = some (.val (.str (Txt.join nl lines)), s) := jn
  have bb : bad.length ≤ 100 := (B.small bad (by rw [e1]; simp)).2
  rw [e1] at sp
  obtain ⟨K, rb⟩ := c_read_bad (k := k) (s := s ++ [.ins "Web" []]) (x := Txt.join nl lines) (by rw [e1]; exact sp) jf.2 hg hu hf rfl (by unfold sizeMax; omega) (fun y hy => by have := hw y hy; omega) (by omega) h0 why
  exact c_heard (k := k + 4) (c_lam3 jn' (c_init_ex rb))
theorem bad_turn {o : Orc} {n : Nat} {S : Sto} {due : Int} {v1 v2 v4 v5 v6 v7 v8 : Option Mi.D} (hd : -1000000 ≤ due ∧ due ≤ 1000000) {ls : Mi.D} (h2 : v2 = some ls) (h : o f__law_heard [.clo m3__law_right [ls]] S = .ok (.exc "BadWeb" (.int due)) S) :
    evSs o l2__law_right.tl [some (.loc n), v1, v2, some (.int due), v4, v5, v6, v7, v8] S = .ok .nxt [some (.loc n), v1, v2, some (.int due), some (.exc "BadWeb" (.int due)), v5, v6, v7, v8] S := by
  subst h2
  have rp := small_repr hd S
  have ei : excIs "BadWeb" ("BadWeb" : Str) = true := by decide +kernel
  simp [l2__law_right, Ss.tl, evSs, evS, evv, ev, evs, capt, h, tst_or, tst_or1, tst_not]
  simp [tst, ev, ei, rp]
theorem odd_turn {k n : Nat} {S : Sto} {d : Mi.D} {v1 v2 v3 v4 v5 v6 v7 v8 : Option Mi.D} (hd : isTyR .str d S = some false) (hi : isTyR .str d (S ++ [.ins "Web" []]) = some false) :
    turnF (.nm 5) (fun env s => evSs (O (k + 6)) l1__law_right env s) d [some (.loc n), v1, v2, v3, v4, v5, v6, v7, v8] S = .ok .nxt [some (.loc n), v1, v2, v3, some (.exc "BadWeb" (.int 0)), some d, v6, v7, v8] S := by
  have h := c_heard (k := k + 4) (c_lam2 (c_init_ex (t := []) (by rw [List.append_nil]; exact c_read_odd (k := k) hi)))
  have h' : O (k + 6) f__law_heard [.clo m2__law_right [d]] S = .ok (.exc "BadWeb" (.int 0)) S := h
  clear h
  have ei : excIs "BadWeb" ("BadWeb" : Str) = true := by decide +kernel
  have rp := small_repr (v := 0) (by decide) S
  have z : PyData.shown (.int 0) = ("0" : Str) := by decide +kernel
  rw [z] at rp
  generalize O (k + 6) = o at *
  simp only [turnF, bt_nm, List.set]
  simp [l1__law_right, evSs, evS, evv, ev, evs, capt, h', tst_or, tst_or1, tst_not]
  simp [tst, ev, ei, rp]
theorem told_one {k : Nat} {S : Sto} {x : Str} {goods : List Rd} {ws rest : List Str} {bad : Str} (e : Txt.split x nl = goods.map Rd.line ++ bad :: rest) (hx : x.length + 2 ≤ sizeMax) (hg : ∀ r ∈ goods, r.Ok) (hu : (goods.map (·.nm)).Nodup) (hf : goods.length ≤ 60)
    (eb : Txt.split bad sp = ws) (hb : bad.length + 2 ≤ sizeMax) (hw : ∀ y ∈ ws, y.length ≤ 1000000) (hl : ws.length ≤ 1000000) (h0 : ws ≠ []) (why : wordsR ws = none) : O (k + 6) f__law_heard [.clo m1__law_right [.str x]] S = .ok (.exc "BadWeb" (.int ((goods.length : Int) + 1))) S := by
  obtain ⟨K, rb⟩ := c_read_bad (k := k) (s := S ++ [.ins "Web" []]) e hx hg hu hf eb hb hw hl h0 (.inr (.inl why))
  exact c_heard (k := k + 4) (c_lam1 (c_init_ex rb))
theorem told_all {k : Nat} {S : Sto} {e0 e1 e2 e3 e4 e5 e6 e7 e8 : Option Mi.D} : mapR (turnC (.nm 7) [7] [e0, e1, e2, e3, e4, e5, e6, e7, e8] fun env s => ev (O (k + 6)) e3__law_right env s) [.str "", .str "\n", .str "road a u v\n"] S = .ok [.exc "BadWeb" (.int 1), .exc "BadWeb" (.int 1), .exc "BadWeb" (.int 2)] S := by
  have w0 : wordsR [("" : Str)] = none := rfl
  have b0 : Txt.split ("" : Str) sp = [("" : Str)] := by decide +kernel
  have l0 : ∀ y ∈ [("" : Str)], y.length ≤ 1000000 := by decide +kernel
  have t1 := told_one (k := k) (S := S) (x := "") (goods := []) (bad := "") (rest := []) (by decide +kernel) (by decide +kernel) (fun r hr => nomatch hr) List.nodup_nil (by decide) b0 (by decide +kernel) l0 (by decide) (by decide) w0
  have t2 := told_one (k := k) (S := S) (x := "\n") (goods := []) (bad := "") (rest := [""]) (by decide +kernel) (by decide +kernel) (fun r hr => nomatch hr) List.nodup_nil (by decide) b0 (by decide +kernel) l0 (by decide) (by decide) w0
  have nm : ∀ y ∈ [("a" : Str), "u", "v"], 1 ≤ y.length ∧ y.length ≤ 8 ∧ ∀ c ∈ TL.tl y, 97 ≤ c ∧ c ≤ 122 := by decide +kernel
  have ok : Rd.Ok ⟨"a", "u", "v"⟩ := ⟨⟨(nm _ (by simp)).1, (nm _ (by simp)).2.1, (nm _ (by simp)).2.2⟩, ⟨(nm _ (by simp)).1, (nm _ (by simp)).2.1, (nm _ (by simp)).2.2⟩, ⟨(nm _ (by simp)).1, (nm _ (by simp)).2.1, (nm _ (by simp)).2.2⟩, by decide +kernel⟩
  have t3 := told_one (k := k) (S := S) (x := "road a u v\n") (goods := [⟨"a", "u", "v"⟩]) (bad := "") (rest := []) (by decide +kernel) (by decide +kernel) (fun r hr => by rw [List.mem_singleton.mp hr]; exact ok) (by simp) (by decide) b0 (by decide +kernel) l0 (by decide) (by decide) w0
  have t1' : O (k + 6) f__law_heard [.clo m1__law_right [.str ""]] S = .ok (.exc "BadWeb" (.int 1)) S := t1
  have t2' : O (k + 6) f__law_heard [.clo m1__law_right [.str "\n"]] S = .ok (.exc "BadWeb" (.int 1)) S := t2
  have t3' : O (k + 6) f__law_heard [.clo m1__law_right [.str "road a u v\n"]] S = .ok (.exc "BadWeb" (.int 2)) S := t3
  clear t1 t2 t3
  generalize O (k + 6) = o at *
  simp [mapR, turnC, wipe, e3__law_right, ev, evs, capt, t1', t2', t3']
end K01

namespace K01
open PySem Mi
theorem slice_drop (xs : List Mi.D) {k : Int} (h : 0 ≤ k) : slice xs (some k) none = xs.drop k.toNat := by
  unfold slice HT.sIx
  simp only [show ¬ k < 0 by omega, if_false]
  rcases Nat.le_total k.toNat xs.length with q | q
  · rw [Nat.min_eq_left q]
    exact List.take_of_length_le (by simp)
  · rw [Nat.min_eq_right q, List.drop_length, List.drop_eq_nil_of_le q]
    simp
theorem spoil_ret {o : Orc} {env : Mi.Env} {S X X2 X5 : Sto} {n : Nat} {t : List Cell} {m m2 m5 a j : Int} {R : List Str} {b : Str} {e hi : Mi.E} (h2 : env[2]? = some (some (.loc S.length))) (h4 : env[4]? = some (some (.int a))) (ha : 0 ≤ a) (hj0 : 0 ≤ j) (hR : R.length ≤ 1000) (hn : isNonE hi = false)
    (P : Pz S n (.lst (R.map .str) :: t) m X) (he : ev o e env (X ++ [.lst ((R.take a.toNat).map .str)]) = .ok (.val (.str b)) X2) (P2 : Pz S n (.lst (R.map .str) :: (t ++ [.lst ((R.take a.toNat).map .str)])) m2 X2)
    (hhi : ev o hi env (X2 ++ [.lst [.str b]] ++ [.lst ((R.take a.toNat ++ [b]).map .str)]) = .ok (.val (.int j)) X5) (P5 : Pz S n (.lst (R.map .str) :: (t ++ [.lst ((R.take a.toNat).map .str)] ++ [.lst [.str b]] ++ [.lst ((R.take a.toNat ++ [b]).map .str)])) m5 X5) :
    ev o (.tup (.cons (.bin .add (.bin .add (.slc (.var 2) (.con .non) (.var 4)) (.lst (.cons e .nil))) (.slc (.var 2) hi (.con .non))) (.cons (.bin .add (.var 4) (.con (.int 1))) .nil))) env X = .ok (.val (.tup [.loc (X5.length + 1), .int (a + 1)])) (X5 ++ [.lst ((R.drop j.toNat).map .str)] ++ [.lst ((R.take a.toNat ++ [b] ++ R.drop j.toNat).map .str)]) := by
  have c0 : X[S.length]? = some (.lst (R.map .str)) := P.get 0
  have c5 : X5[S.length]? = some (.lst (R.map .str)) := P5.get 0
  have len : X.length = S.length + (1 + t.length) := by rw [P.len, List.length_cons]; omega
  have len2 : X2.length = S.length + (1 + t.length + 1) := by rw [P2.len, List.length_cons, List.length_append]; simp; omega
  have c2 : X2[X.length]? = some (.lst ((R.take a.toNat).map .str)) := by
    rw [len, P2.get (1 + t.length), show 1 + t.length = t.length + 1 by omega, List.getElem?_cons_succ]
    simp
  have c7 : X5[X2.length + 1]? = some (.lst ((R.take a.toNat ++ [b]).map .str)) := by
    rw [len2, show S.length + (1 + t.length + 1) + 1 = S.length + (t.length + 3) by omega, P5.get, show t.length + 3 = (t.length + 2) + 1 by omega, List.getElem?_cons_succ]
    simp
  have s1 : slcR (.loc S.length) none (some a) X = some (.new ((R.take a.toNat).map .str)) := by
    have z := slice_take (R.map Mi.D.str) ha
    simp only [slcR, sq_loc c0, Option.map_some, Bool.false_eq_true, if_false, z, List.map_take]
  have s2 : slcR (.loc S.length) (some j) none X5 = some (.new ((R.drop j.toNat).map .str)) := by
    have z := slice_drop (R.map Mi.D.str) hj0
    simp only [slcR, sq_loc c5, Option.map_some, Bool.false_eq_true, if_false, z, List.map_drop]
  have lt : (R.take a.toNat).length ≤ 1000 := by rw [List.length_take]; omega
  have ld : (R.drop j.toNat).length ≤ 1000 := by rw [List.length_drop]; omega
  have a1 : binR .add (.loc X.length) (.loc X2.length) (X2 ++ [.lst [.str b]]) = some (.new ((R.take a.toNat ++ [b]).map .str)) := by
    have l1 : lstOf (.loc X.length) (X2 ++ [.lst [.str b]]) = some ((R.take a.toNat).map .str) := by simp [lstOf, app_at c2]
    have l2 : lstOf (.loc X2.length) (X2 ++ [Cell.lst [.str b]]) = some [.str b] := by simp [lstOf]
    unfold binR addR
    simp only [l1, l2]
    rw [List.map_append]
    exact if_pos (by rw [List.length_map]; unfold sizeMax; simp; omega)
  obtain ⟨X6, hX6⟩ : ∃ z, X5 ++ [Cell.lst ((R.drop j.toNat).map .str)] = z := ⟨_, rfl⟩
  have a2 : binR .add (.loc (X2.length + 1)) (.loc X5.length) X6 = some (.new ((R.take a.toNat ++ [b] ++ R.drop j.toNat).map .str)) := by
    have l1 : lstOf (.loc (X2.length + 1)) X6 = some ((R.take a.toNat ++ [b]).map .str) := by rw [← hX6]; simp [lstOf, app_at c7]
    have l2 : lstOf (.loc X5.length) X6 = some ((R.drop j.toNat).map .str) := by rw [← hX6]; simp [lstOf]
    unfold binR addR
    simp only [l1, l2]
    rw [List.map_append (l₁ := R.take a.toNat ++ [b])]
    exact if_pos (by rw [List.length_map, List.length_map, List.length_append]; unfold sizeMax; simp; omega)
  have l6 : X6.length = X5.length + 1 := by rw [← hX6]; simp
  rw [hX6]
  clear P P2 P5 c0 c2 c5 c7 len len2
  generalize (R.take a.toNat ++ [b] ++ R.drop j.toNat).map Mi.D.str = A3 at *
  generalize (R.take a.toNat ++ [b]).map Mi.D.str = A2 at *
  generalize (R.take a.toNat).map Mi.D.str = A1 at *
  generalize (R.drop j.toNat).map Mi.D.str = A4 at *
  have l3 : (X2 ++ [Cell.lst [Mi.D.str b]]).length = X2.length + 1 := by simp
  have eqs : X2 ++ [Cell.lst [Mi.D.str b]] ++ [Cell.lst A2] = X2 ++ [Cell.lst [.str b], Cell.lst A2] := by simp
  rw [eqs] at hhi
  have n0 : isNonE (.con .non) = true := rfl
  have n1 : isNonE (.var 4) = false := rfl
  simp [ev, evs, part, n0, n1, hn, h2, h4, s1, he, sizeMax, a1, hhi, s2, hX6, a2, l6]
theorem freeze_pair {n L : Nat} {S : Sto} {ls : List Str} {v : Int} (h : S[L]? = some (.lst (ls.map .str))) (hn : n ≤ L) : freeze n (.tup [.loc L, .int v]) S = .tup [.flst (ls.map .str), .int v] := by
  have z : frz n S 8 (.loc L) = .flst (ls.map .str) := by
    have e := frz_lst (k := 7) h hn
    rw [frz_undL (undL_map fun _ _ => rfl)] at e
    exact e
  have e : ∀ d v : Mi.D, frz n S 9 (.tup [d, v]) = .tup [frz n S 8 d, frz n S 8 v] := fun _ _ => rfl
  have e2 : frz n S 8 (.int v) = .int v := rfl
  show frz n S 9 (.tup [.loc L, .int v]) = _
  rw [e, z, e2]
def badR : List Str := ["", " ", "road", "road qqqqa", "road qqqqa u", "road qqqqa u u", "road qqqqa u v w", "roads qqqqa u v", "road Q u v", "road q1 u v", "road ninesigns u v", "road qqqqa U v", "road qqqqa u ninesigns", "road  qqqqa u v", "road qqqqa  u v", " road qqqqa u v", "road qqqqa u v ", "road qqqqa u-v",
  "Road qqqqa u v", "road qqqqa u 1", "qqqqa u v", "road qqqqa u", "road - u v", "road qqqqa u v,", "way qqqqa u v"]
theorem badR_ok : ∀ x ∈ badR, wordsR (Txt.split x sp) = none ∧ (∀ y ∈ Txt.split x sp, y.length ≤ 1000) ∧ (Txt.split x sp).length ≤ 1000 ∧ Txt.split x sp ≠ [] ∧ 10 ∉ TL.tl x ∧ x.length ≤ 100 := by decide +kernel
theorem c_bad_rows {k : Nat} {s : Sto} : O (k + 1) f__law_bad_rows [] s = .ok (.flst (badR.map .str)) s := by
  refine (call_eq (fd := d__law_bad_rows) rfl rfl rfl).trans ?_
  let A1 : List Str := ["", " ", "road", "road qqqqa", "road qqqqa u", "road qqqqa u u", "road qqqqa u v w", "roads qqqqa u v"]
  let A2 : List Str := ["road Q u v", "road q1 u v", "road ninesigns u v", "road qqqqa U v", "road qqqqa u ninesigns"]
  let A3 : List Str := ["road  qqqqa u v", "road qqqqa  u v", " road qqqqa u v", "road qqqqa u v ", "road qqqqa u-v"]
  let A4 : List Str := ["Road qqqqa u v", "road qqqqa u 1", "qqqqa u v"]
  let A5 : List Str := ["road qqqqa u", "road - u v", "road qqqqa u v,", "way qqqqa u v"]
  have e : runF (O k) d__law_bad_rows [] s = .ok (.loc (s.length + 5)) (s ++ ([.lst ((A1 ++ A2 ++ A3 ++ A4).map .str), .lst (A2.map .str), .lst (A3.map .str), .lst (A4.map .str), .lst (A5.map .str)] ++ [.lst (badR.map .str)])) := by
    generalize O k = o
    simp [runF, d__law_bad_rows, b__law_bad_rows, evSs, evS, evv, ev, evs, sizeMax, mtTy, Mt.isStr, mthR, lstOf, binR, addR, A1, A2, A3, A4, A5, badR]
  rw [e]
  have h1 : (s ++ ([Cell.lst ((A1 ++ A2 ++ A3 ++ A4).map .str), .lst (A2.map .str), .lst (A3.map .str), .lst (A4.map .str), .lst (A5.map .str)] ++ [.lst (badR.map .str)]))[s.length + 5]? = some (.lst (badR.map .str)) := by
    rw [List.getElem?_append_right (by omega), show s.length + 5 - s.length = 5 by omega]
    rfl
  exact sweep_new h1 (by omega) (undL_map fun _ _ => rfl)
end K01

namespace K01
open PySem Mi
theorem bad_mid {own : List Rd} (ho : Own own) {at_ j : Nat} (ha : at_ ≤ own.length) {b : Str} (h1 : ∀ y ∈ Txt.split b sp, y.length ≤ 1000) (h2 : (Txt.split b sp).length ≤ 1000) (h3 : Txt.split b sp ≠ []) (h4 : 10 ∉ TL.tl b) (h5 : b.length ≤ 100)
    (why : wordsR (Txt.split b sp) = none ∨ ∃ r, wordsR (Txt.split b sp) = some r ∧ r.nm ∈ (own.take at_).map (·.nm)) : BadTx ((own.map Rd.line).take at_ ++ [b] ++ (own.map Rd.line).drop j) ((at_ : Int) + 1) := by
  have few := ho.few
  have gl : (own.take at_).length = at_ := by rw [List.length_take]; omega
  refine ⟨⟨own.take at_, b, (own.map Rd.line).drop j, ?_, fun r hr => ho.ok r (List.mem_of_mem_take hr), (ho.uniq.sublist ((List.take_sublist _ _).map _)), by rw [gl]; omega, h1, h2, h3, .inr why, by rw [gl]⟩, fun l hl => ?_, ?_⟩
  · rw [List.map_take, List.append_assoc]
    rfl
  · have line : ∀ l ∈ own.map Rd.line, 10 ∉ TL.tl l ∧ l.length ≤ 100 := fun l hl => by
      obtain ⟨r, hr, rfl⟩ := List.mem_map.mp hl
      exact ⟨(ho.ok r hr).free, by have := (ho.ok r hr).fits.2; omega⟩
    rw [List.mem_append, List.mem_append, List.mem_singleton] at hl
    rcases hl with (hl | rfl) | hl
    · exact line l (List.mem_of_mem_take hl)
    · exact ⟨h4, h5⟩
    · exact line l (List.mem_of_mem_drop hl)
  · simp
    omega
theorem nm_q : Nm "qqqqu" ∧ Nm "qqqqv" ∧ Nm "u" ∧ Nm "v" := by
  have h : ∀ y ∈ [("qqqqu" : Str), "qqqqv", "u", "v"], 1 ≤ y.length ∧ y.length ≤ 8 ∧ ∀ c ∈ TL.tl y, 97 ≤ c ∧ c ≤ 122 := by decide +kernel
  have g : ∀ y ∈ [("qqqqu" : Str), "qqqqv", "u", "v"], Nm y := fun y hy => ⟨(h y hy).1, (h y hy).2.1, (h y hy).2.2⟩
  exact ⟨g _ (by simp), g _ (by simp), g _ (by simp), g _ (by simp)⟩
theorem twice_ok {x : Str} (h : Nm x) : Rd.Ok ⟨x, "qqqqu", "qqqqv"⟩ := ⟨h, nm_q.1, nm_q.2.1, (show ("qqqqu" : Str) ≠ "qqqqv" by decide +kernel)⟩
theorem words_ok {r : Rd} (h : r.Ok) : wordsR (Txt.split r.line sp) = some r := by
  rw [h.split]
  show (if rdW = rdW ∧ nameB r.nm = true ∧ nameB r.fr = true ∧ nameB r.to = true ∧ r.fr ≠ r.to then some _ else none) = _
  rw [if_pos ⟨rfl, nameB_nm h.nm, nameB_nm h.fr, nameB_nm h.to, h.ne⟩]
theorem ws_few {r : Rd} (h : r.Ok) : (∀ y ∈ Txt.split r.line sp, y.length ≤ 1000) ∧ (Txt.split r.line sp).length ≤ 1000 ∧ Txt.split r.line sp ≠ [] := by
  rw [h.split]
  exact ⟨fun y hy => by have := (h.parts y hy).2.2; omega, by simp [Rd.ws], by simp [Rd.ws]⟩
theorem bad_twice {own : List Rd} (ho : Own own) {at_ j i : Nat} (ha : at_ ≤ own.length) {x : Str} {r : Rd} (hi : own[i]? = some r) (hx : r.nm = x) (ia : i < at_) : BadTx ((own.map Rd.line).take at_ ++ [Rd.line ⟨x, "qqqqu", "qqqqv"⟩] ++ (own.map Rd.line).drop j) ((at_ : Int) + 1) := by
  have nx : Nm x := by rw [← hx]; exact (ho.ok r (List.mem_of_getElem? hi)).nm
  have ok := twice_ok nx
  obtain ⟨w1, w2, w3⟩ := ws_few ok
  refine bad_mid ho ha w1 w2 w3 ok.free (by have := ok.fits.2; omega) (.inr ⟨_, words_ok ok, ?_⟩)
  show x ∈ _
  rw [← hx]
  exact List.mem_map_of_mem (f := Rd.nm) (List.mem_of_getElem? (i := i) (by rw [List.getElem?_take, if_pos ia]; exact hi))
theorem bad_odd {own : List Rd} (ho : Own own) {at_ j : Nat} (ha : at_ ≤ own.length) {x : Str} (hx : x ∈ badR) : BadTx ((own.map Rd.line).take at_ ++ [x] ++ (own.map Rd.line).drop j) ((at_ : Int) + 1) := by
  obtain ⟨h0, h1, h2, h3, h4, h5⟩ := badR_ok x hx
  exact bad_mid ho ha h1 h2 h3 h4 h5 (.inl h0)
def ltr (p : Str) : List Str := LETTS.cps.toList.map fun c => p ++ ⟨#[c]⟩
def moreN : List Str := ltr "qqqq" ++ ltr "qqqp" ++ ltr "qqqo"
def moreR : List Rd := moreN.map fun x => ⟨x, "u", "v"⟩
theorem moreN_ok : (∀ x ∈ moreN, x.length = 5 ∧ ∀ c ∈ TL.tl x, 97 ≤ c ∧ c ≤ 122) ∧ moreN.Nodup ∧ moreN.length = 78 := by decide +kernel
theorem moreR_ok : (∀ r ∈ moreR, r.Ok ∧ r.nm.length = 5) ∧ (moreR.map (·.nm)).Nodup ∧ moreR.length = 78 := by
  obtain ⟨h1, h2, h3⟩ := moreN_ok
  have e : moreR.map (·.nm) = moreN := by
    unfold moreR
    rw [List.map_map]
    exact List.map_id _
  refine ⟨fun r hr => ?_, by rw [e]; exact h2, by unfold moreR; rw [List.length_map]; exact h3⟩
  obtain ⟨x, hx, rfl⟩ := List.mem_map.mp hr
  have := h1 x hx
  exact ⟨⟨⟨by rw [this.1]; decide, by rw [this.1]; decide, this.2⟩, nm_q.2.2.1, nm_q.2.2.2, (show ("u" : Str) ≠ "v" by decide +kernel)⟩, this.1⟩
theorem bad_many {own : List Rd} (ho : Own own) (h5 : ∀ r ∈ own, r.nm.length ≠ 5) {r : Nat} (hr : r ≤ 2) : BadTx (own.map Rd.line ++ (moreR.map Rd.line).take (61 - own.length + r)) 61 := by
  obtain ⟨m1, m2, m3⟩ := moreR_ok
  have few := ho.few
  have pos : own.length ≠ 0 := by have := ho.ne; simpa using this
  obtain ⟨a, ha⟩ : ∃ a, a = 60 - own.length := ⟨_, rfl⟩
  have al : a < moreR.length := by omega
  obtain ⟨x, hx⟩ : ∃ x, moreR[a] = x := ⟨_, rfl⟩
  have hx' : moreR[a]? = some x := by rw [List.getElem?_eq_getElem al, hx]
  have xm : x ∈ moreR := List.mem_of_getElem? hx'
  have gl : (own ++ moreR.take a).length = 60 := by rw [List.length_append, List.length_take]; omega
  obtain ⟨w1, w2, w3⟩ := ws_few (m1 x xm).1
  have okAll : ∀ r ∈ own ++ moreR, r.Ok := fun r hr => by
    rcases List.mem_append.mp hr with hr | hr
    · exact ho.ok r hr
    · exact (m1 r hr).1
  refine ⟨⟨own ++ moreR.take a, x.line, ((moreR.drop (a + 1)).take r).map Rd.line, ?_, fun r hr => okAll r (by
    rcases List.mem_append.mp hr with hr | hr
    · exact List.mem_append_left _ hr
    · exact List.mem_append_right _ (List.mem_of_mem_take hr)), ?_, by rw [gl]; exact Nat.le_refl _, w1, w2, w3, .inl gl, by rw [gl]; rfl⟩, fun l hl => ?_, ?_⟩
  · rw [List.map_append, List.append_assoc, ← List.map_take]
    congr 1
    rw [show 61 - own.length + r = a + (r + 1) by omega, List.take_add, List.map_append]
    congr 1
    rw [List.drop_eq_getElem_cons al, hx, List.take_succ_cons, List.map_cons]
  · rw [List.map_append, List.nodup_append]
    refine ⟨ho.uniq, m2.sublist ((List.take_sublist _ _).map _), fun y hy z hz e => ?_⟩
    obtain ⟨r1, q1, rfl⟩ := List.mem_map.mp hy
    obtain ⟨r2, q2, rfl⟩ := List.mem_map.mp hz
    exact h5 r1 q1 (by rw [e]; exact (m1 r2 (List.mem_of_mem_take q2)).2)
  · have : l ∈ (own ++ moreR).map Rd.line := by
      rw [List.map_append]
      rcases List.mem_append.mp hl with hl | hl
      · exact List.mem_append_left _ hl
      · exact List.mem_append_right _ (List.mem_of_mem_take hl)
    obtain ⟨r, hr, rfl⟩ := List.mem_map.mp this
    exact ⟨(okAll r hr).free, by have := (okAll r hr).fits.2; omega⟩
  · rw [List.length_append, List.length_map, List.length_take, List.length_map]
    omega
end K01

namespace K01
open PySem Mi
theorem ext_mth {n g : Nat} {s : Sto} {xs ys : List Mi.D} (h : s[n]? = some (.lst xs)) (h2 : s[g]? = some (.lst ys)) (hl : xs.length + ys.length ≤ sizeMax) : mthR .extend (.loc n) [.loc g] s = some (.val .non, s.set n (.lst (xs ++ ys))) := by
  simp [mthR, h, lstOf, h2, hl]
theorem evSs_ret {o : Orc} {b : Mi.Ss} {env env' : Mi.Env} {s s' : Sto} {d : Mi.D} (hb : b = .cons b.hd b.tl) (h : evS o b.hd env s = .ok (.ret d) env' s') : (evSs o b env s).back = some (d, s') := by
  rw [hb]
  simp only [evSs, h]
  rfl
theorem ret_ev {o : Orc} {e : Mi.E} {env : Mi.Env} {s s' : Sto} {d : Mi.D} (h : ev o e env s = .ok (.val d) s') : evS o (.ret e) env s = .ok (.ret d) env s' := by
  simp [evS, evv, h]
theorem idx_first : ∀ (own : List Rd) (x : Str) (n : Nat), x ∈ own.map (·.nm) → ∃ i r, own[i]? = some r ∧ r.nm = x ∧ idxOf (.str x) (own.map fun r => Mi.D.str r.nm) n = some (n + i)
  | [], x, n, h => by cases h
  | r :: own, x, n, h => by
    by_cases e : r.nm = x
    · refine ⟨0, r, rfl, e, ?_⟩
      rw [List.map_cons, idxOf, if_pos (by simp [flatEq, e])]
      rfl
    · have h' : x ∈ own.map (·.nm) := by
        rw [List.map_cons] at h
        rcases List.mem_cons.mp h with z | z
        · exact absurd z.symm e
        · exact z
      obtain ⟨i, r', q1, q2, q3⟩ := idx_first own x (n + 1) h'
      refine ⟨i + 1, r', by simpa using q1, q2, ?_⟩
      rw [List.map_cons, idxOf, if_neg (by simp [flatEq, e]), q3]
      congr 1
      omega
abbrev spE (n c : Nat) (B : List Mi.D) (v3 v4 v5 v6 v7 v8 v9 v10 v11 : Option Mi.D) : Mi.Env := [some (.loc n), some (.flst B), some (.loc c), v3, v4, v5, v6, v7, v8, v9, v10, v11]
abbrev inner : Mi.S → Mi.Ss
  | .iff _ a _ => a
  | _ => .nil
theorem sp_head {k : Nat} {S : Sto} {n : Nat} {m : Int} {own : List Rd} (P : Pz S n [] m S) (hm : m + 10 < 1099511627776) (ho : Own own) :
    ∃ (w a : Int) (S3 : Sto), (∀ r, (evSs (O (k + 2)) b__law_spoilt.tl.tl (spE n S.length (own.map Rd.d) (some (.int w)) (some (.int a)) none none none none none none none) S3).back = r → (evSs (O (k + 2)) b__law_spoilt [some (.loc n), some (.flst (own.map Rd.d)), none, none, none, none, none, none, none, none, none, none] S).back = r) ∧
      0 ≤ a ∧ a ≤ own.length ∧ Pz S n [.lst ((own.map Rd.line).map .str)] (m + 2) S3 := by
  have few := ho.few
  have e1 := c_web_text (k := k + 1) (s := S) ho
  have sp : mthR .split (.str (webText own)) [.str "\n"] S = some (.new ((own.map Rd.line).map .str), S) := by
    have q : ¬ Str.length ("\n" : Str) = 0 := by decide +kernel
    have e' : Txt.split (webText own) "\n" = own.map Rd.line := ho.lines
    have h := ho.fits.2
    simp [mthR, h, e', q]
  obtain ⟨S1, hS1⟩ : ∃ z, S ++ [Cell.lst ((own.map Rd.line).map .str)] = z := ⟨_, rfl⟩
  have P1 := P.app (u := [.lst ((own.map Rd.line).map .str)])
  rw [hS1, List.nil_append] at P1
  obtain ⟨w, S2, e2, _, P2⟩ := P1.take draws (k := k + 1) (u := 5) (by omega) (by omega)
  have len2 : b1 .len (.loc S.length) S2 = some (.int (own.length : Int)) := by
    have z := b1_len_sq (sq_loc (show S2[S.length]? = some (.lst ((own.map Rd.line).map .str)) from P2.get 0))
    rw [z, List.length_map, List.length_map]
  obtain ⟨a, S3, e3, ⟨a0, a1⟩, P3⟩ := P2.take draws (k := k + 1) (u := (own.length : Int) + 1) (by omega) (by omega)
  refine ⟨w, a, S3, fun r hr => ?_, a0, by omega, P3.le (by omega)⟩
  have e1' : O (k + 2) f__law_web_text [.flst (own.map Rd.d)] S = .ok (.str (webText own)) S := e1
  have e2' : O (k + 2) f__law_take [.loc n, .int 5] S1 = .ok (.int w) S2 := e2
  have e3' : O (k + 2) f__law_take [.loc n, .int ((own.length : Int) + 1)] S2 = .ok (.int a) S3 := e3
  have g1 : evS (O (k + 2)) b__law_spoilt.hd [some (.loc n), some (.flst (own.map Rd.d)), none, none, none, none, none, none, none, none, none, none] S = .ok .nxt (spE n S.length (own.map Rd.d) (some (.int w)) none none none none none none none none) S2 := by
    have few2 : own.length ≤ 16777216 := by omega
    have fl : ((own.map Rd.line).map Mi.D.str).length ≤ 16777216 := by rw [List.length_map, List.length_map]; omega
    clear e1 e2 e3 hr
    unfold spE
    generalize own.map Rd.d = B at *
    generalize webText own = wt at *
    generalize (own.map Rd.line).map Mi.D.str = R0 at *
    generalize O (k + 2) = o at *
    simp [b__law_spoilt, Ss.hd, evS, evv, ev, evs, e1', mtTy, Mt.isStr, sp, hS1, e2', setAll]
  have g2 : evS (O (k + 2)) b__law_spoilt.tl.hd (spE n S.length (own.map Rd.d) (some (.int w)) none none none none none none none none) S2 = .ok .nxt (spE n S.length (own.map Rd.d) (some (.int w)) (some (.int a)) none none none none none none none) S3 := by
    clear e1 e2 e3 hr
    unfold spE
    generalize own.map Rd.d = B at *
    generalize (own.length : Int) = ol at *
    generalize O (k + 2) = o at *
    simp [b__law_spoilt, Ss.hd, Ss.tl, evS, evv, ev, evs, len2, e3']
  rw [evSs_step g1, evSs_step g2]
  exact hr
/-- an odd row for one or two -/
theorem sp_odd {k : Nat} {S S3 : Sto} {n : Nat} {m w a : Int} {own : List Rd} (P : Pz S n [.lst ((own.map Rd.line).map .str)] m S3) (hm : m + 10 < 1099511627776) (ho : Own own) (w0 : w ≠ 0) (w1 : w ≠ 1) (a0 : 0 ≤ a) (al : a ≤ own.length) :
    ∃ (lines : List Str) (t : List Cell) (L : Nat) (X : Sto), (evSs (O (k + 2)) b__law_spoilt.tl.tl (spE n S.length (own.map Rd.d) (some (.int w)) (some (.int a)) none none none none none none none) S3).back = some (.tup [.loc L, .int (a + 1)], X) ∧ Pz S n t (m + 2) X ∧ X[L]? = some (.lst (lines.map .str)) ∧ S.length ≤ L ∧ BadTx lines (a + 1) := by
  have few := ho.few
  have rl : (own.map Rd.line).length ≤ 1000 := by rw [List.length_map]; omega
  have P1 := P.app (u := [.lst (((own.map Rd.line).take a.toNat).map .str)])
  have br := c_bad_rows (k := k + 1) (s := S3 ++ [.lst (((own.map Rd.line).take a.toNat).map .str)])
  obtain ⟨x, X2, e1, hx, P2⟩ := P1.of_ draws (k := k) (d := .flst (badR.map .str)) (q := false) (xs := badR.map .str) (by omega) (fun c => rfl) (by simp [badR]) (by simp [badR]) (fun x hx => by
    obtain ⟨y, _, rfl⟩ := List.mem_map.mp hx
    rfl)
  obtain ⟨b, hb, rfl⟩ := List.mem_map.mp hx
  have P4 := (P2.app (u := [.lst [.str b]])).app (u := [.lst (((own.map Rd.line).take a.toNat ++ [b]).map .str)])
  obtain ⟨r, X5, e2, ⟨r0, _⟩, P5⟩ := P4.take draws (k := k + 1) (u := 2) (by omega) (by omega)
  have br' : O (k + 2) f__law_bad_rows [] (S3 ++ [.lst (((own.map Rd.line).take a.toNat).map .str)]) = .ok (.flst (badR.map .str)) (S3 ++ [.lst (((own.map Rd.line).take a.toNat).map .str)]) := br
  have e1' : O (k + 2) f__law_of [.loc n, .flst (badR.map .str)] (S3 ++ [.lst (((own.map Rd.line).take a.toNat).map .str)]) = .ok (.str b) X2 := e1
  have e2' : O (k + 2) f__law_take [.loc n, .int 2] (X2 ++ [.lst [.str b]] ++ [.lst (((own.map Rd.line).take a.toNat ++ [b]).map .str)]) = .ok (.int r) X5 := e2
  have he : ev (O (k + 2)) (.fn f__law_of (.cons (.var 0) (.cons (.fn f__law_bad_rows .nil) .nil))) (spE n S.length (own.map Rd.d) (some (.int w)) (some (.int a)) none none none none none none none) (S3 ++ [.lst (((own.map Rd.line).take a.toNat).map .str)]) = .ok (.val (.str b)) X2 := by
    clear e1 e2 br
    generalize O (k + 2) = o at *
    generalize badR.map Mi.D.str = BR at *
    generalize S3 ++ [Cell.lst (((own.map Rd.line).take a.toNat).map .str)] = Z at *
    simp [ev, evs, br', e1']
  have hh : ev (O (k + 2)) (.bin .add (.var 4) (.fn f__law_take (.cons (.var 0) (.cons (.con (.int 2)) .nil)))) (spE n S.length (own.map Rd.d) (some (.int w)) (some (.int a)) none none none none none none none) (X2 ++ [.lst [.str b]] ++ [.lst (((own.map Rd.line).take a.toNat ++ [b]).map .str)]) = .ok (.val (.int (a + r))) X5 := by
    clear e1 e2 br he
    generalize O (k + 2) = o at *
    generalize X2 ++ [Cell.lst [.str b]] ++ [Cell.lst (((own.map Rd.line).take a.toNat ++ [b]).map .str)] = Z at *
    simp [ev, evs, e2']
  have sr := spoil_ret (o := O (k + 2)) (env := spE n S.length (own.map Rd.d) (some (.int w)) (some (.int a)) none none none none none none none) (a := a) (j := a + r) (b := b) rfl rfl a0 (by omega) rl rfl P he P2 hh (by simpa using P5)
  refine ⟨(own.map Rd.line).take a.toNat ++ [b] ++ (own.map Rd.line).drop (a + r).toNat, _, X5.length + 1, _, ?_, ((P5.app (u := [.lst (((own.map Rd.line).drop (a + r).toNat).map .str)])).app (u := [.lst (((own.map Rd.line).take a.toNat ++ [b] ++ (own.map Rd.line).drop (a + r).toNat).map .str)])).le (by omega), ?_, ?_, ?_⟩
  rotate_left
  · rw [List.getElem?_append_right (by simp)]
    simp
  · rw [P5.len]
    omega
  · have z := bad_odd (at_ := a.toNat) (j := (a + r).toNat) ho (by omega) hb
    rw [Int.toNat_of_nonneg a0] at z
    exact z
  have g3 : evS (O (k + 2)) b__law_spoilt.tl.tl.hd (spE n S.length (own.map Rd.d) (some (.int w)) (some (.int a)) none none none none none none none) S3 = .ok .nxt (spE n S.length (own.map Rd.d) (some (.int w)) (some (.int a)) none none none none none none none) S3 := by
    clear e1 e2 br sr he hh
    unfold spE
    generalize own.map Rd.d = B at *
    generalize O (k + 2) = o at *
    simp [b__law_spoilt, Ss.hd, Ss.tl, evS, evSs, evv, tst, ev, w0]
  have g4 : evS (O (k + 2)) b__law_spoilt.tl.tl.tl.hd (spE n S.length (own.map Rd.d) (some (.int w)) (some (.int a)) none none none none none none none) S3 = .ok .nxt (spE n S.length (own.map Rd.d) (some (.int w)) (some (.int a)) none none none none none none none) S3 := by
    clear e1 e2 br sr he hh
    unfold spE
    generalize own.map Rd.d = B at *
    generalize O (k + 2) = o at *
    simp [b__law_spoilt, Ss.hd, Ss.tl, evS, evSs, evv, tst, ev, w1]
  rw [evSs_step g3, evSs_step g4]
  exact evSs_ret rfl (ret_ev sr)
end K01

namespace K01
open PySem Mi
theorem sp_twice {k : Nat} {S S3 : Sto} {n : Nat} {m a : Int} {own : List Rd} (P : Pz S n [.lst ((own.map Rd.line).map .str)] m S3) (hm : m + 10 < 1099511627776) (ho : Own own) :
    ∃ (lines : List Str) (t : List Cell) (L : Nat) (a' : Int) (X : Sto), (evSs (O (k + 2)) b__law_spoilt.tl.tl (spE n S.length (own.map Rd.d) (some (.int 0)) (some (.int a)) none none none none none none none) S3).back = some (.tup [.loc L, .int (a' + 1)], X) ∧ Pz S n t (m + 2) X ∧ X[L]? = some (.lst (lines.map .str)) ∧ S.length ≤ L ∧ 0 ≤ a' ∧ a' ≤ 60 ∧ BadTx lines (a' + 1) := by
  have few := ho.few
  have rl : (own.map Rd.line).length ≤ 1000 := by rw [List.length_map]; omega
  obtain ⟨d, S4, e1, hx, P4⟩ := P.of_ draws (k := k) (d := .flst (own.map Rd.d)) (q := false) (xs := own.map Rd.d) (by omega) (fun c => rfl) (by simpa using ho.ne) (by rw [List.length_map]; omega) (fun x hx => by
    obtain ⟨y, _, rfl⟩ := List.mem_map.mp hx
    simp [Rd.d])
  obtain ⟨r, hr, rfl⟩ := List.mem_map.mp hx
  obtain ⟨i, r', hi, hnm, ix⟩ := idx_first own r.nm 0 (List.mem_map_of_mem (f := (·.nm)) hr)
  rw [Nat.zero_add] at ix
  have il := (List.getElem?_eq_some_iff.mp hi).1
  obtain ⟨S5, hS5⟩ : ∃ z, S4 ++ [Cell.lst (own.map fun r => Mi.D.str r.nm)] = z := ⟨_, rfl⟩
  have P5 := P4.app (u := [.lst (own.map fun r => Mi.D.str r.nm)])
  rw [hS5] at P5
  have c5 : S5[S4.length]? = some (.lst (own.map fun r => Mi.D.str r.nm)) := by rw [← hS5]; exact app_end
  have ixm : mthR .index (.loc S4.length) [.str r.nm] S5 = some (.val (.int (i : Int)), S5) := by
    have lo : lstOf (.loc S4.length) S5 = some (own.map fun r => Mi.D.str r.nm) := by simp [lstOf, c5]
    have sc : (own.map fun r => Mi.D.str r.nm).all scalar = true := by
      rw [List.all_map]
      exact List.all_eq_true.mpr fun _ _ => rfl
    simp only [mthR, lo, sc, scalar, Bool.and_self, if_true, ix]
    rfl
  have mt := mty_loc c5 (f := .index) rfl
  have len5 : b1 .len (.loc S.length) S5 = some (.int (own.length : Int)) := by
    have z := b1_len_sq (sq_loc (show S5[S.length]? = some (.lst ((own.map Rd.line).map .str)) from P5.get 0))
    rw [z, List.length_map, List.length_map]
  obtain ⟨q, S6, e2, ⟨q0, q1⟩, P6⟩ := P5.take draws (k := k + 1) (u := (own.length : Int) - (i : Int)) (by omega) (by omega)
  obtain ⟨at_, hat⟩ : ∃ at_ : Nat, (at_ : Int) = (i : Int) + 1 + q := ⟨((i : Int) + 1 + q).toNat, by omega⟩
  have e1' : O (k + 2) f__law_of [.loc n, .flst (own.map Rd.d)] S3 = .ok (.tup [.str r.nm, .str r.fr, .str r.to]) S4 := e1
  have e2' : O (k + 2) f__law_take [.loc n, .int ((own.length : Int) - (i : Int))] S5 = .ok (.int q) S6 := e2
  have nl : r.nm.length ≤ 8 := (ho.ok r hr).nm.few
  have st : ("road " : Str) ++ r.nm ++ (" qqqqu qqqqv" : Str) = Rd.line ⟨r.nm, "qqqqu", "qqqqv"⟩ := by
    unfold Rd.line Rd.ws
    rw [TL.join_eq]
    apply TL.ext_tl
    show TL.tl (("road " : Str) ++ r.nm ++ (" qqqqu qqqqv" : Str)) = TL.tl (rdW ++ sp ++ (r.nm ++ sp ++ Str.join sp ["qqqqu", "qqqqv"]))
    rw [TL.tl_append, TL.tl_append, TL.tl_append, TL.tl_append, TL.tl_append, TL.tl_append]
    have h1 : TL.tl ("road " : Str) = TL.tl rdW ++ TL.tl sp := by decide +kernel
    have h2 : TL.tl (" qqqqu qqqqv" : Str) = TL.tl sp ++ TL.tl (Str.join sp ["qqqqu", "qqqqv"]) := by decide +kernel
    rw [h1, h2]
    simp only [List.append_assoc]
  have b1' : ∀ s, binR .add (.str ("road " : Str)) (.str r.nm) s = some (.val (.str (("road " : Str) ++ r.nm))) := fun s => bin_strs (by rw [show ("road " : Str).length = 5 by decide +kernel]; omega) s
  have b2' : ∀ s, binR .add (.str (("road " : Str) ++ r.nm)) (.str (" qqqqu qqqqv" : Str)) s = some (.val (.str (Rd.line ⟨r.nm, "qqqqu", "qqqqv"⟩))) := fun s => by
    rw [← st]
    refine bin_strs ?_ s
    rw [show (" qqqqu qqqqv" : Str).length = 12 by decide +kernel, TL.len_tl, TL.tl_append, List.length_append, ← TL.len_tl, ← TL.len_tl, show ("road " : Str).length = 5 by decide +kernel]
    omega
  have he : ev (O (k + 2)) (.bin .add (.bin .add (.con (.str "road ")) (.var 5)) (.con (.str " qqqqu qqqqv"))) (spE n S.length (own.map Rd.d) (some (.int 0)) (some (.int (at_ : Int))) (some (.str r.nm)) (some (.int (i : Int))) none none none none none) (S6 ++ [.lst (((own.map Rd.line).take ((at_ : Nat) : Int).toNat).map .str)]) = .ok (.val (.str (Rd.line ⟨r.nm, "qqqqu", "qqqqv"⟩))) (S6 ++ [.lst (((own.map Rd.line).take ((at_ : Nat) : Int).toNat).map .str)]) := by
    clear e1 e2
    generalize O (k + 2) = o at *
    generalize S6 ++ [Cell.lst (((own.map Rd.line).take ((at_ : Nat) : Int).toNat).map .str)] = Z at *
    simp [ev, b1', b2']
  obtain ⟨ln, hln⟩ : ∃ z, Rd.line ⟨r.nm, "qqqqu", "qqqqv"⟩ = z := ⟨_, rfl⟩
  have z := bad_twice (at_ := at_) (j := at_) ho (by omega) hi hnm (by omega)
  rw [hln] at he z
  obtain ⟨A, hA⟩ : ∃ z, (own.map Rd.line).take ((at_ : Nat) : Int).toNat = z := ⟨_, rfl⟩
  obtain ⟨S7, hS7⟩ : ∃ z, S6 ++ [Cell.lst (A.map .str)] = z := ⟨_, rfl⟩
  rw [hA, hS7] at he
  have P7 := P6.app (u := [.lst (A.map .str)])
  rw [hS7] at P7
  obtain ⟨S9, hS9⟩ : ∃ z, S7 ++ [Cell.lst [.str ln]] ++ [Cell.lst ((A ++ [ln]).map .str)] = z := ⟨_, rfl⟩
  have P9 := (P7.app (u := [.lst [.str ln]])).app (u := [.lst ((A ++ [ln]).map .str)])
  rw [hS9] at P9
  have sr := spoil_ret (o := O (k + 2)) (env := spE n S.length (own.map Rd.d) (some (.int 0)) (some (.int (at_ : Int))) (some (.str r.nm)) (some (.int (i : Int))) none none none none none) (a := (at_ : Int)) (j := (at_ : Int)) (b := ln) (hi := .var 4) (X5 := S9) (t := [Cell.lst (own.map fun r => Mi.D.str r.nm)]) (m := m + 1 + 1) (m2 := m + 1 + 1) (m5 := m + 1 + 1) rfl rfl (by omega) (by omega) rl rfl P6 (by rw [hA, hS7]; exact he) (by rw [hA]; exact P7) (by rw [hA, hS9]; rfl) (by rw [hA]; exact P9)
  rw [hA] at sr
  rw [Int.toNat_natCast] at hA sr
  rw [hA] at z
  obtain ⟨Ls, hLs⟩ : ∃ z, A ++ [ln] ++ (own.map Rd.line).drop at_ = z := ⟨_, rfl⟩
  obtain ⟨S10, hS10⟩ : ∃ z, S9 ++ [Cell.lst (((own.map Rd.line).drop at_).map .str)] = z := ⟨_, rfl⟩
  have P10 := P9.app (u := [.lst (((own.map Rd.line).drop at_).map .str)])
  have l10 : S10.length = S9.length + 1 := by rw [← hS10]; simp
  rw [hS10] at P10 sr
  rw [hLs] at z sr
  rw [← l10] at sr
  refine ⟨Ls, _, S10.length, (at_ : Int), S10 ++ [.lst (Ls.map .str)], ?_, (P10.app (u := [.lst (Ls.map .str)])).le (by omega), app_end, by rw [P10.len]; omega, by omega, by omega, z⟩
  have g5 : evS (O (k + 2)) b__law_spoilt.tl.tl.hd (spE n S.length (own.map Rd.d) (some (.int 0)) (some (.int a)) none none none none none none none) S3 = evSs (O (k + 2)) (inner b__law_spoilt.tl.tl.hd) (spE n S.length (own.map Rd.d) (some (.int 0)) (some (.int a)) none none none none none none none) S3 := by
    clear e1 e2 sr he e1' e2' P P4 P5 P6 P7 P9 P10
    unfold spE
    generalize own.map Rd.d = B at *
    generalize O (k + 2) = o at *
    simp [b__law_spoilt, inner, Ss.hd, Ss.tl, evS, evv, tst, ev]
  have h1 : evS (O (k + 2)) (inner b__law_spoilt.tl.tl.hd).hd (spE n S.length (own.map Rd.d) (some (.int 0)) (some (.int a)) none none none none none none none) S3 = .ok .nxt (spE n S.length (own.map Rd.d) (some (.int 0)) (some (.int a)) (some (.str r.nm)) none none none none none none) S4 := by
    clear e1 e2 sr he e2' g5 P P4 P5 P6 P7 P9 P10
    unfold spE
    generalize own.map Rd.d = B at *
    generalize O (k + 2) = o at *
    have it0 : ∀ (a b c : Mi.D) (s : Sto), idxR (.tup [a, b, c]) (.int 0) s = some a := fun a b c s => rfl
    simp [b__law_spoilt, inner, Ss.hd, Ss.tl, evS, evv, ev, evs, e1', it0]
  have lr : ∀ (v3 v4 v5 v6 v7 v8 v9 v10 v11 : Option Mi.D), mapR (turnC (.nm 7) [7] (spE n S.length (own.map Rd.d) v3 v4 v5 v6 v7 v8 v9 v10 v11) fun env s => ev (O (k + 2)) e5__law_spoilt env s) (own.map Rd.d) S4 = .ok (own.map fun r => Mi.D.str r.nm) S4 := fun v3 v4 v5 v6 v7 v8 v9 v10 v11 => mapR_map fun r _ => by
    have it0 : ∀ (a b c : Mi.D) (s : Sto), idxR (.tup [a, b, c]) (.int 0) s = some a := fun a b c s => rfl
    generalize O (k + 2) = o at *
    unfold spE
    simp [turnC, wipe, e5__law_spoilt, ev, evs, Rd.d, it0]
  have h2 : evS (O (k + 2)) (inner b__law_spoilt.tl.tl.hd).tl.hd (spE n S.length (own.map Rd.d) (some (.int 0)) (some (.int a)) (some (.str r.nm)) none none none none none none) S4 = .ok .nxt (spE n S.length (own.map Rd.d) (some (.int 0)) (some (.int a)) (some (.str r.nm)) (some (.int (i : Int))) none none none none none) S5 := by
    have fl : (own.map fun r => Mi.D.str r.nm).length ≤ 16777216 := by rw [List.length_map]; omega
    clear e1 e2 sr he e2' g5 h1 e1' ix P P4 P5 P6 P7 P9 P10
    unfold spE at lr ⊢
    generalize own.map Rd.d = B at *
    generalize (own.map fun r => Mi.D.str r.nm) = NN at *
    generalize O (k + 2) = o at *
    simp [b__law_spoilt, inner, Ss.hd, Ss.tl, evS, evv, ev, evs, srcP, lr, sizeMax, fl, hS5, mt, ixm]
  have h3 : evS (O (k + 2)) (inner b__law_spoilt.tl.tl.hd).tl.tl.hd (spE n S.length (own.map Rd.d) (some (.int 0)) (some (.int a)) (some (.str r.nm)) (some (.int (i : Int))) none none none none none) S5 = .ok .nxt (spE n S.length (own.map Rd.d) (some (.int 0)) (some (.int (at_ : Int))) (some (.str r.nm)) (some (.int (i : Int))) none none none none none) S6 := by
    rw [hat]
    clear e1 e2 sr he g5 h1 h2 e1' ix lr P P4 P5 P6 P7 P9 P10
    unfold spE
    generalize own.map Rd.d = B at *
    generalize O (k + 2) = o at *
    generalize (own.length : Int) = ol at *
    generalize (i : Int) = ii at *
    simp [b__law_spoilt, inner, Ss.hd, Ss.tl, evS, evv, ev, evs, len5, e2']
  refine evSs_ret rfl (env' := spE n S.length (own.map Rd.d) (some (.int 0)) (some (.int (at_ : Int))) (some (.str r.nm)) (some (.int (i : Int))) none none none none none) ?_
  rw [g5, evSs_step h1, evSs_step h2, evSs_step h3]
  have rt := ret_ev sr
  show (match evS (O (k + 2)) (.ret _) _ _ with
    | .ok .nxt env' s' => evSs (O (k + 2)) .nil env' s'
    | x => x) = _
  rw [rt]
end K01

namespace K01
open PySem Mi
theorem ltr_q {o : Orc} {S : Sto} {v0 v1 v2 v3 v4 v5 v6 v7 v8 v9 v10 v11 : Option Mi.D} : mapR (turnC (.nm 10) [10] [v0, v1, v2, v3, v4, v5, v6, v7, v8, v9, v10, v11] fun env s => ev o e3__law_spoilt env s) (chars LETTS) S = .ok ((ltr "qqqq").map .str) S := by
  unfold ltr
  rw [List.map_map]
  refine mapR_map fun c hc => ?_
  have bs := bin_strs (a := ("qqqq" : Str)) (b := ⟨#[c]⟩) (by rw [show (⟨#[c]⟩ : Str).length = 1 from rfl, show ("qqqq" : Str).length = 4 by decide +kernel]; omega) S
  simp [turnC, wipe, e3__law_spoilt, ev, bs]
theorem ltr_p {o : Orc} {S : Sto} {v0 v1 v2 v3 v4 v5 v6 v7 v8 v9 v10 v11 : Option Mi.D} : mapR (turnC (.nm 10) [10] [v0, v1, v2, v3, v4, v5, v6, v7, v8, v9, v10, v11] fun env s => ev o e4__law_spoilt env s) (chars LETTS) S = .ok ((ltr "qqqp").map .str) S := by
  unfold ltr
  rw [List.map_map]
  refine mapR_map fun c hc => ?_
  have bs := bin_strs (a := ("qqqp" : Str)) (b := ⟨#[c]⟩) (by rw [show (⟨#[c]⟩ : Str).length = 1 from rfl, show ("qqqp" : Str).length = 4 by decide +kernel]; omega) S
  simp [turnC, wipe, e4__law_spoilt, ev, bs]
theorem ltr_o {o : Orc} {S : Sto} {v0 v1 v2 v3 v4 v5 v6 v7 v8 v9 v10 v11 : Option Mi.D} : mapR (turnC (.nm 10) [10] [v0, v1, v2, v3, v4, v5, v6, v7, v8, v9, v10, v11] fun env s => ev o e2__law_spoilt env s) (chars LETTS) S = .ok ((ltr "qqqo").map .str) S := by
  unfold ltr
  rw [List.map_map]
  refine mapR_map fun c hc => ?_
  have bs := bin_strs (a := ("qqqo" : Str)) (b := ⟨#[c]⟩) (by rw [show (⟨#[c]⟩ : Str).length = 1 from rfl, show ("qqqo" : Str).length = 4 by decide +kernel]; omega) S
  simp [turnC, wipe, e2__law_spoilt, ev, bs]
theorem line_run {o : Orc} {S : Sto} {d : Mi.D} {v0 v1 v2 v3 v4 v5 v6 v7 v8 v9 v10 v11 : Option Mi.D} (hd : IsL d S (moreN.map .str)) : ∃ src, srcP (.val d) S = some src ∧ mapSrc (turnC (.nm 5) [5] [v0, v1, v2, v3, v4, v5, v6, v7, v8, v9, v10, v11] fun env s => ev o e1__law_spoilt env s) src S = .ok ((moreR.map Rd.line).map .str) S := by
  have z := hd.map (f := turnC (.nm 5) [5] [v0, v1, v2, v3, v4, v5, v6, v7, v8, v9, v10, v11] fun env s => ev o e1__law_spoilt env s) (g := fun x => Mi.D.str (Rd.line ⟨x, "u", "v"⟩)) fun x hx => by
    have st : ("road " : Str) ++ x ++ (" u v" : Str) = Rd.line ⟨x, "u", "v"⟩ := by
      unfold Rd.line Rd.ws
      rw [TL.join_eq]
      apply TL.ext_tl
      show TL.tl (("road " : Str) ++ x ++ (" u v" : Str)) = TL.tl (rdW ++ sp ++ (x ++ sp ++ Str.join sp ["u", "v"]))
      rw [TL.tl_append, TL.tl_append, TL.tl_append, TL.tl_append, TL.tl_append, TL.tl_append]
      have h1 : TL.tl ("road " : Str) = TL.tl rdW ++ TL.tl sp := by decide +kernel
      have h2 : TL.tl (" u v" : Str) = TL.tl sp ++ TL.tl (Str.join sp ["u", "v"]) := by decide +kernel
      rw [h1, h2]
      simp only [List.append_assoc]
    have xl := (moreN_ok.1 x hx).1
    have b1 := bin_strs (a := ("road " : Str)) (b := x) (by rw [show ("road " : Str).length = 5 by decide +kernel]; omega) S
    have b2 := bin_strs (a := ("road " : Str) ++ x) (b := (" u v" : Str)) (by
      rw [show (" u v" : Str).length = 4 by decide +kernel, TL.len_tl, TL.tl_append, List.length_append, ← TL.len_tl, ← TL.len_tl, show ("road " : Str).length = 5 by decide +kernel]
      omega) S
    rw [st] at b2
    simp [turnC, wipe, e1__law_spoilt, ev, b1, b2]
  obtain ⟨src, z1, z2⟩ := z
  refine ⟨src, z1, ?_⟩
  rw [z2]
  unfold moreR
  rw [List.map_map, List.map_map]
  rfl
theorem sp_many {k : Nat} {S S3 : Sto} {n : Nat} {m a : Int} {own : List Rd} (P : Pz S n [.lst ((own.map Rd.line).map .str)] m S3) (hm : m + 10 < 1099511627776) (ho : Own own) (h5 : ∀ r ∈ own, r.nm.length ≠ 5) :
    ∃ (lines : List Str) (t : List Cell) (L : Nat) (X : Sto), (evSs (O (k + 2)) b__law_spoilt.tl.tl (spE n S.length (own.map Rd.d) (some (.int 1)) (some (.int a)) none none none none none none none) S3).back = some (.tup [.loc L, .int 61], X) ∧ Pz S n t (m + 2) X ∧ X[L]? = some (.lst (lines.map .str)) ∧ S.length ≤ L ∧ BadTx lines 61 := by
  have few := ho.few
  obtain ⟨q, hq⟩ : ∃ z, ltr "qqqq" = z := ⟨_, rfl⟩
  obtain ⟨p, hp⟩ : ∃ z, ltr "qqqp" = z := ⟨_, rfl⟩
  obtain ⟨r, hr⟩ : ∃ z, ltr "qqqo" = z := ⟨_, rfl⟩
  have n26 : LETTS.cps.toList.length = 26 := by decide +kernel
  have lq : q.length = 26 := by rw [← hq]; unfold ltr; rw [List.length_map]; exact n26
  have lp : p.length = 26 := by rw [← hp]; unfold ltr; rw [List.length_map]; exact n26
  have lr : r.length = 26 := by rw [← hr]; unfold ltr; rw [List.length_map]; exact n26
  have mn : q ++ p ++ r = moreN := by rw [← hq, ← hp, ← hr]; rfl
  have run1 := fun (S : Sto) (v0 v1 v2 v3 v4 v5 v6 v7 v8 v9 v10 v11 : Option Mi.D) => ltr_q (o := O (k + 2)) (S := S) (v0 := v0) (v1 := v1) (v2 := v2) (v3 := v3) (v4 := v4) (v5 := v5) (v6 := v6) (v7 := v7) (v8 := v8) (v9 := v9) (v10 := v10) (v11 := v11)
  have run2 := fun (S : Sto) (v0 v1 v2 v3 v4 v5 v6 v7 v8 v9 v10 v11 : Option Mi.D) => ltr_p (o := O (k + 2)) (S := S) (v0 := v0) (v1 := v1) (v2 := v2) (v3 := v3) (v4 := v4) (v5 := v5) (v6 := v6) (v7 := v7) (v8 := v8) (v9 := v9) (v10 := v10) (v11 := v11)
  have run3 := fun (S : Sto) (v0 v1 v2 v3 v4 v5 v6 v7 v8 v9 v10 v11 : Option Mi.D) => ltr_o (o := O (k + 2)) (S := S) (v0 := v0) (v1 := v1) (v2 := v2) (v3 := v3) (v4 := v4) (v5 := v5) (v6 := v6) (v7 := v7) (v8 := v8) (v9 := v9) (v10 := v10) (v11 := v11)
  rw [hq] at run1
  rw [hp] at run2
  rw [hr] at run3
  have src : ∀ s, srcP (.val (.str LETTS)) s = some (.fix (chars LETTS)) := fun _ => rfl
  obtain ⟨S4, hS4⟩ : ∃ z, S3 ++ [Cell.lst (q.map .str)] = z := ⟨_, rfl⟩
  obtain ⟨S5, hS5⟩ : ∃ z, S4 ++ [Cell.lst (p.map .str)] = z := ⟨_, rfl⟩
  obtain ⟨S6, hS6⟩ : ∃ z, S5 ++ [Cell.lst ((q ++ p).map .str)] = z := ⟨_, rfl⟩
  obtain ⟨S7, hS7⟩ : ∃ z, S6 ++ [Cell.lst (r.map .str)] = z := ⟨_, rfl⟩
  have P4 := P.app (u := [.lst (q.map .str)])
  rw [hS4] at P4
  have P5 := P4.app (u := [.lst (p.map .str)])
  rw [hS5] at P5
  have P6 := P5.app (u := [.lst ((q ++ p).map .str)])
  rw [hS6] at P6
  have P7 := P6.app (u := [.lst (r.map .str)])
  rw [hS7] at P7
  have l5 : S5.length = S.length + 3 := by rw [P5.len]; rfl
  have ad : binR .add (.loc S3.length) (.loc S4.length) S5 = some (.new ((q ++ p).map .str)) := by
    have l1 : lstOf (.loc S3.length) S5 = some (q.map .str) := by rw [← hS5, ← hS4]; simp [lstOf]
    have l2 : lstOf (.loc S4.length) S5 = some (p.map .str) := by rw [← hS5]; simp [lstOf]
    unfold binR addR
    simp only [l1, l2]
    rw [List.map_append]
    exact if_pos (by rw [List.length_map, List.length_map]; unfold sizeMax; omega)
  have c7 : S7[S5.length]? = some (.lst ((q ++ p).map .str)) := by rw [← hS7, ← hS6]; exact app_at app_end
  have d7 : S7[S6.length]? = some (.lst (r.map .str)) := by rw [← hS7]; exact app_end
  obtain ⟨S8, hS8⟩ : ∃ z, S7.set S5.length (Cell.lst (moreN.map .str)) = z := ⟨_, rfl⟩
  have ex := ext_mth c7 d7 (by rw [List.length_map, List.length_map, List.length_append]; unfold sizeMax; omega)
  rw [← List.map_append, mn, hS8] at ex
  have mt7 := mty_loc c7 (f := .extend) rfl
  have P8 := P7.put 3 (.lst (moreN.map .str))
  rw [← l5, hS8] at P8
  have c8 : S8[S5.length]? = some (.lst (moreN.map .str)) := by
    rw [← hS8, List.getElem?_set_self (List.getElem?_eq_some_iff.mp c7).1]
  have lrun := fun v0 v1 v2 v3 v4 v5 v6 v7 v8 v9 v10 v11 => line_run (o := O (k + 2)) (v0 := v0) (v1 := v1) (v2 := v2) (v3 := v3) (v4 := v4) (v5 := v5) (v6 := v6) (v7 := v7) (v8 := v8) (v9 := v9) (v10 := v10) (v11 := v11) (IsL.loc c8)
  obtain ⟨S9, hS9⟩ : ∃ z, S8 ++ [Cell.lst ((moreR.map Rd.line).map .str)] = z := ⟨_, rfl⟩
  have P9 := P8.app (u := [.lst ((moreR.map Rd.line).map .str)])
  rw [hS9] at P9
  obtain ⟨z, S10, e10, ⟨z0, z1⟩, P10⟩ := P9.take draws (k := k + 1) (u := 3) (by omega) (by omega)
  have e10' : O (k + 2) f__law_take [.loc n, .int 3] S9 = .ok (.int z) S10 := e10
  have len9 : b1 .len (.loc S.length) S9 = some (.int (own.length : Int)) := by
    have z := b1_len_sq (sq_loc (show S9[S.length]? = some (.lst ((own.map Rd.line).map .str)) from P9.get 0))
    rw [z, List.length_map, List.length_map]
  have l8 : S8.length = S.length + 5 := by rw [P8.len]; rfl
  have c10 : S10[S8.length]? = some (.lst ((moreR.map Rd.line).map .str)) := by
    rw [l8, P10.get 5]
    rfl
  have b10 : S10[S.length]? = some (.lst ((own.map Rd.line).map .str)) := P10.get 0
  obtain ⟨j, hj⟩ : ∃ j : Nat, (j : Int) = 61 - (own.length : Int) + z := ⟨(61 - (own.length : Int) + z).toNat, by omega⟩
  have bt := bad_many ho h5 (r := z.toNat) (by omega)
  rw [show 61 - own.length + z.toNat = j by omega] at bt
  have sl : slcR (.loc S8.length) none (some (61 - (own.length : Int) + z)) S10 = some (.new (((moreR.map Rd.line).take j).map .str)) := by
    have w := slice_take ((moreR.map Rd.line).map Mi.D.str) (k := 61 - (own.length : Int) + z) (by omega)
    rw [show (61 - (own.length : Int) + z).toNat = j by omega] at w
    simp only [slcR, sq_loc c10, Option.map_some, Bool.false_eq_true, if_false, w, List.map_take]
  obtain ⟨M, hM⟩ : ∃ z, (moreR.map Rd.line).take j = z := ⟨_, rfl⟩
  have lM : M.length ≤ 100 := by rw [← hM, List.length_take, List.length_map, moreR_ok.2.2]; omega
  rw [hM] at bt sl
  obtain ⟨S11, hS11⟩ : ∃ z, S10 ++ [Cell.lst (M.map .str)] = z := ⟨_, rfl⟩
  have P11 := P10.app (u := [.lst (M.map .str)])
  rw [hS11] at P11
  have ad2 : binR .add (.loc S.length) (.loc S10.length) S11 = some (.new ((own.map Rd.line ++ M).map .str)) := by
    have l1 : lstOf (.loc S.length) S11 = some ((own.map Rd.line).map .str) := by rw [← hS11]; simp [lstOf, app_at b10]
    have l2 : lstOf (.loc S10.length) S11 = some (M.map .str) := by rw [← hS11]; simp [lstOf]
    unfold binR addR
    simp only [l1, l2]
    rw [List.map_append (l₁ := own.map Rd.line)]
    exact if_pos (by rw [List.length_map, List.length_map, List.length_map]; unfold sizeMax; omega)
  refine ⟨own.map Rd.line ++ M, _, S11.length, S11 ++ [.lst ((own.map Rd.line ++ M).map .str)], ?_, (P11.app (u := [.lst ((own.map Rd.line ++ M).map .str)])).le (by omega), app_end, by rw [P11.len]; omega, bt⟩
  have fq : (q.map Mi.D.str).length ≤ 16777216 := by rw [List.length_map]; omega
  have fp : (p.map Mi.D.str).length ≤ 16777216 := by rw [List.length_map]; omega
  have fr : (r.map Mi.D.str).length ≤ 16777216 := by rw [List.length_map]; omega
  have fm : ((moreR.map Rd.line).map Mi.D.str).length ≤ 16777216 := by rw [List.length_map, List.length_map, moreR_ok.2.2]; omega
  have g3 : evS (O (k + 2)) b__law_spoilt.tl.tl.hd (spE n S.length (own.map Rd.d) (some (.int 1)) (some (.int a)) none none none none none none none) S3 = .ok .nxt (spE n S.length (own.map Rd.d) (some (.int 1)) (some (.int a)) none none none none none none none) S3 := by
    clear run1 run2 run3 lrun e10
    unfold spE
    generalize own.map Rd.d = B at *
    generalize O (k + 2) = o at *
    simp [b__law_spoilt, Ss.hd, Ss.tl, evS, evSs, evv, tst, ev]
  have g4 : evS (O (k + 2)) b__law_spoilt.tl.tl.tl.hd (spE n S.length (own.map Rd.d) (some (.int 1)) (some (.int a)) none none none none none none none) S3 = evSs (O (k + 2)) (inner b__law_spoilt.tl.tl.tl.hd) (spE n S.length (own.map Rd.d) (some (.int 1)) (some (.int a)) none none none none none none none) S3 := by
    clear run1 run2 run3 lrun e10 g3
    unfold spE
    generalize own.map Rd.d = B at *
    generalize O (k + 2) = o at *
    simp [b__law_spoilt, inner, Ss.hd, Ss.tl, evS, evv, tst, ev]
  have i1 : evS (O (k + 2)) (inner b__law_spoilt.tl.tl.tl.hd).hd (spE n S.length (own.map Rd.d) (some (.int 1)) (some (.int a)) none none none none none none none) S3 = .ok .nxt (spE n S.length (own.map Rd.d) (some (.int 1)) (some (.int a)) none none none (some (.str LETTS)) none none none) S3 := by
    clear run1 run2 run3 lrun e10 g3 g4
    unfold spE
    generalize own.map Rd.d = B at *
    generalize O (k + 2) = o at *
    simp [b__law_spoilt, inner, Ss.hd, Ss.tl, evS, evv, ev]
    rfl
  have i2 : evS (O (k + 2)) (inner b__law_spoilt.tl.tl.tl.hd).tl.hd (spE n S.length (own.map Rd.d) (some (.int 1)) (some (.int a)) none none none (some (.str LETTS)) none none none) S3 = .ok .nxt (spE n S.length (own.map Rd.d) (some (.int 1)) (some (.int a)) none none none (some (.str LETTS)) (some (.loc S5.length)) none none) S6 := by
    clear run3 lrun e10 g3 g4 i1
    unfold spE
    generalize own.map Rd.d = B at *
    generalize q.map Mi.D.str = Q0 at *
    generalize p.map Mi.D.str = P0 at *
    generalize (q ++ p).map Mi.D.str = QP at *
    generalize chars LETTS = CL at *
    generalize LETTS = LT at *
    generalize O (k + 2) = o at *
    simp [b__law_spoilt, inner, Ss.hd, Ss.tl, evS, evv, ev, src, run1, run2, sizeMax, fq, fp, hS4, hS5, ad, hS6]
  have i3 : evS (O (k + 2)) (inner b__law_spoilt.tl.tl.tl.hd).tl.tl.hd (spE n S.length (own.map Rd.d) (some (.int 1)) (some (.int a)) none none none (some (.str LETTS)) (some (.loc S5.length)) none none) S6 = .ok .nxt (spE n S.length (own.map Rd.d) (some (.int 1)) (some (.int a)) none none none (some (.str LETTS)) (some (.loc S5.length)) none none) S8 := by
    clear run1 run2 lrun e10 g3 g4 i1 i2
    have mt6 : mtTy .extend (.loc S5.length) S6 = true := mty_loc (by rw [← hS6]; exact app_end) rfl
    unfold spE
    generalize own.map Rd.d = B at *
    generalize r.map Mi.D.str = R0 at *
    generalize chars LETTS = CL at *
    generalize LETTS = LT at *
    generalize O (k + 2) = o at *
    simp [b__law_spoilt, inner, Ss.hd, Ss.tl, evS, evv, ev, evs, src, run3, sizeMax, fr, hS7, mt6, mt7, ex]
  obtain ⟨src8, sr1, sr2⟩ := lrun (some (.loc n)) (some (.flst (own.map Rd.d))) (some (.loc S.length)) (some (.int 1)) (some (.int a)) none none none (some (.str LETTS)) (some (.loc S5.length)) none none
  have i4 : evS (O (k + 2)) (inner b__law_spoilt.tl.tl.tl.hd).tl.tl.tl.hd (spE n S.length (own.map Rd.d) (some (.int 1)) (some (.int a)) none none none (some (.str LETTS)) (some (.loc S5.length)) none none) S8 = .ok .nxt (spE n S.length (own.map Rd.d) (some (.int 1)) (some (.int a)) none none none (some (.str LETTS)) (some (.loc S5.length)) none (some (.loc S8.length))) S9 := by
    clear run1 run2 run3 lrun e10 g3 g4 i1 i2 i3
    unfold spE
    generalize own.map Rd.d = B at *
    generalize (moreR.map Rd.line).map Mi.D.str = ML at *
    generalize LETTS = LT at *
    generalize O (k + 2) = o at *
    simp [b__law_spoilt, inner, Ss.hd, Ss.tl, evS, evv, ev, evs, sr1, sr2, sizeMax, fm, hS9]
  have sr : ev (O (k + 2)) (.tup (.cons (.bin .add (.var 2) (.slc (.var 11) (.con .non) (.bin .add (.bin .sub (.con (.int 61)) (.b1 .len (.var 2))) (.fn f__law_take (.cons (.var 0) (.cons (.con (.int 3)) .nil)))))) (.cons (.con (.int 61)) .nil))) (spE n S.length (own.map Rd.d) (some (.int 1)) (some (.int a)) none none none (some (.str LETTS)) (some (.loc S5.length)) none (some (.loc S8.length))) S9 = .ok (.val (.tup [.loc S11.length, .int 61])) (S11 ++ [.lst ((own.map Rd.line ++ M).map .str)]) := by
    clear run1 run2 run3 lrun e10 g3 g4 i1 i2 i3 i4 sr2
    have n0 : isNonE (.con .non) = true := rfl
    have n1 : isNonE (.bin .add (.bin .sub (.con (.int 61)) (.b1 .len (.var 2))) (.fn f__law_take (.cons (.var 0) (.cons (.con (.int 3)) .nil)))) = false := rfl
    unfold spE
    generalize own.map Rd.d = B at *
    generalize (own.map Rd.line ++ M).map Mi.D.str = OM at *
    generalize M.map Mi.D.str = M0 at *
    generalize (own.length : Int) = ol at *
    generalize LETTS = LT at *
    generalize O (k + 2) = o at *
    simp [ev, evs, part, n0, n1, len9, e10', sl, hS11, ad2, sizeMax]
  rw [evSs_step g3]
  refine evSs_ret rfl (env' := spE n S.length (own.map Rd.d) (some (.int 1)) (some (.int a)) none none none (some (.str LETTS)) (some (.loc S5.length)) none (some (.loc S8.length))) ?_
  rw [g4, evSs_step i1, evSs_step i2, evSs_step i3, evSs_step i4]
  have rt := ret_ev sr
  show (match evS (O (k + 2)) (.ret _) _ _ with
    | .ok .nxt env' s' => evSs (O (k + 2)) .nil env' s'
    | x => x) = _
  rw [rt]
end K01

namespace K01
open PySem Mi
theorem c_spoilt {k : Nat} {S : Sto} {n : Nat} {m : Int} {own : List Rd} (P : Pz S n [] m S) (hm : m + 20 < 1099511627776) (ho : Own own) (h5 : ∀ r ∈ own, r.nm.length ≠ 5) :
    ∃ (lines : List Str) (due : Int) (S' : Sto), O (k + 3) f__law_spoilt [.loc n, .flst (own.map Rd.d)] S = .ok (.tup [.flst (lines.map .str), .int due]) S' ∧ Pz S n [] (m + 4) S' ∧ BadTx lines due ∧ 0 ≤ due ∧ due ≤ 100 := by
  obtain ⟨w, a, S3, hd, a0, a1, P3⟩ := sp_head (k := k) P (by omega) ho
  have few := ho.few
  have fin : ∀ (lines : List Str) (t : List Cell) (L : Nat) (due : Int) (X : Sto), (evSs (O (k + 2)) b__law_spoilt.tl.tl (spE n S.length (own.map Rd.d) (some (.int w)) (some (.int a)) none none none none none none none) S3).back = some (.tup [.loc L, .int due], X) → Pz S n t (m + 2 + 2) X → X[L]? = some (.lst (lines.map .str)) → S.length ≤ L →
      ∃ S', O (k + 3) f__law_spoilt [.loc n, .flst (own.map Rd.d)] S = .ok (.tup [.flst (lines.map .str), .int due]) S' ∧ Pz S n [] (m + 4) S' := fun lines t L due X hb PX hL hLS => by
    have hu : (Mi.D.tup [.flst (lines.map .str), .int due]).und S.length = true := by
      rw [und_tup]
      have : D.undL S.length (lines.map Mi.D.str) = true := undL_map fun _ _ => rfl
      simp [D.undL, D.und, this]
    obtain ⟨S', e, P'⟩ := PX.sweep (freeze_pair hL hLS) hu
    refine ⟨S', ?_, P'.le (by omega)⟩
    refine (call_eq (fd := d__law_spoilt) rfl rfl rfl).trans ?_
    rw [runF_back (d := .tup [.loc L, .int due]) (s' := X), e]
    exact hd _ hb
  by_cases w0 : w = 0
  · subst w0
    obtain ⟨lines, t, L, a', X, h1, h2, h3, h4, h6, h7, h8⟩ := sp_twice (k := k) (a := a) P3 (by omega) ho
    obtain ⟨S', e, P'⟩ := fin lines t L _ X h1 h2 h3 h4
    exact ⟨lines, _, S', e, P', h8, by omega, by omega⟩
  · by_cases w1 : w = 1
    · subst w1
      obtain ⟨lines, t, L, X, h1, h2, h3, h4, h8⟩ := sp_many (k := k) (a := a) P3 (by omega) ho h5
      obtain ⟨S', e, P'⟩ := fin lines t L _ X h1 h2 h3 h4
      exact ⟨lines, _, S', e, P', h8, by omega, by omega⟩
    · obtain ⟨lines, t, L, X, h1, h2, h3, h4, h8⟩ := sp_odd (k := k) P3 (by omega) ho w0 w1 a0 a1
      obtain ⟨S', e, P'⟩ := fin lines t L _ X h1 h2 h3 h4
      exact ⟨lines, _, S', e, P', h8, by omega, by omega⟩
theorem lap01 {k : Nat} {b X : Sto} {n : Nat} {t : List Cell} {m i : Int} {v1 v2 v3 v4 v5 v6 v7 v8 : Option Mi.D} (P : Pz b n t m X) (hm : m + 20000 < 1099511627000) :
    ∃ (X' : Sto) (v2' v3' v4' : Option Mi.D), turnF (.nm 1) (fun env s => evSs (O (k + 6)) l2__law_right env s) (.int i) [some (.loc n), v1, v2, v3, v4, v5, v6, v7, v8] X = .ok .nxt [some (.loc n), some (.int i), v2', v3', v4', v5, v6, v7, v8] X' ∧ Pz b n t (m + 10004) X' := by
  obtain ⟨own, S1, e1, P1, ho, h5⟩ := c_law_web (k := k + 2) (v := 6) P.here (by omega) (by omega)
  obtain ⟨lines, due, S2, e2, P2, B, d0, d1⟩ := c_spoilt (k := k + 3) P1.here (by omega) ho h5
  have P2 := P1.out0 P2
  have hh := heard_lines (k := k) (s := S2) B
  refine ⟨S2, some (.flst (lines.map .str)), some (.int due), some (.exc "BadWeb" (.int due)), ?_, (P.out0 P2).le (by omega)⟩
  have e1' : O (k + 6) f__law_web [.loc n, .int 6] X = .ok (.flst (own.map Rd.d)) S1 := e1
  have e2' : O (k + 6) f__law_spoilt [.loc n, .flst (own.map Rd.d)] S1 = .ok (.tup [.flst (lines.map .str), .int due]) S2 := e2
  have bt := bad_turn (o := O (k + 6)) (n := n) (S := S2) (due := due) (v1 := some (.int i)) (v2 := some (.flst (lines.map .str))) (v4 := v4) (v5 := v5) (v6 := v6) (v7 := v7) (v8 := v8) (by omega) rfl hh
  have g1 : evS (O (k + 6)) l2__law_right.hd [some (.loc n), some (.int i), v2, v3, v4, v5, v6, v7, v8] X = .ok .nxt [some (.loc n), some (.int i), some (.flst (lines.map .str)), some (.int due), v4, v5, v6, v7, v8] S2 := by
    clear e1 e2 hh bt
    generalize own.map Rd.d = B0 at *
    generalize lines.map Mi.D.str = LL at *
    generalize O (k + 6) = o at *
    simp [l2__law_right, Ss.hd, evS, evv, ev, evs, e1', e2', bindTg, setAll]
  simp only [turnF, bt_nm, List.set]
  rw [evSs_step g1]
  exact bt
theorem c_right {k : Nat} {S : Sto} {n : Nat} {m : Int} (P : Pz S n [] m S) (hm : m + 200000 < 1099511627000) : ∃ S', O (k + 7) f__law_right [.loc n] S = .ok (.bl true) S' ∧ Pz S n [] (m + 200000) S' := by
  -- the laps
  obtain ⟨env1, S1, r1, v1, v2, v3, v4, rfl, P1⟩ := turns_all (f := turnF (.nm 1) fun env s => evSs (O (k + 6)) l2__law_right env s) (h := fun (i : Nat) => Mi.D.int (i : Int)) (l := List.range 10) (env := [some (.loc n), none, none, none, none, none, none, none, none]) (s := S)
    (I := fun i env X => ∃ (v1 v2 v3 v4 : Option Mi.D), env = [some (.loc n), v1, v2, v3, v4, none, none, none, none] ∧ Pz S n [] (m + 10004 * (i : Int)) X)
    ⟨none, none, none, none, rfl, P.le (by omega)⟩ (fun i a hi env X => by
      rintro ⟨v1, v2, v3, v4, rfl, P⟩
      have il := (List.getElem?_eq_some_iff.mp hi).1
      rw [List.length_range] at il
      obtain ⟨X', v2', v3', v4', g, P'⟩ := lap01 (k := k) (i := (a : Int)) (v1 := v1) (v2 := v2) (v3 := v3) (v4 := v4) (v5 := none) (v6 := none) (v7 := none) (v8 := none) P (by omega)
      exact ⟨_, X', g, some (.int (a : Int)), v2', v3', v4', rfl, P'.le (by omega)⟩)
  rw [List.length_range] at P1
  -- what is no text
  obtain ⟨S2, hS2⟩ : ∃ z, S1 ++ [Cell.lst [.str "road a u v"]] = z := ⟨_, rfl⟩
  obtain ⟨S3, hS3⟩ : ∃ z, S2 ++ [Cell.dk []] = z := ⟨_, rfl⟩
  have P3 := (P1.app (u := [.lst [.str "road a u v"]])).app (u := [.dk []])
  rw [hS2, hS3] at P3
  have c1 : S3[S1.length]? = some (.lst [.str "road a u v"]) := by rw [← hS3, ← hS2]; exact app_at app_end
  have c2 : S3[S2.length]? = some (.dk []) := by rw [← hS3]; exact app_end
  obtain ⟨vals, hv⟩ : ∃ vals : List Mi.D, vals = [.non, .int 0, .bl true, .tup [], .loc S1.length, .loc S2.length, .tup [.str "road a u v"]] := ⟨_, rfl⟩
  have odd : ∀ d ∈ vals, ∀ t : Sto, isTyR .str d (S3 ++ t) = some false := fun d hd t => by
    rw [hv] at hd
    simp only [List.mem_cons, List.not_mem_nil, or_false] at hd
    rcases hd with rfl | rfl | rfl | rfl | rfl | rfl | rfl
    · rfl
    · rfl
    · rfl
    · rfl
    · have c := app_at (t := t) c1
      simp [isTyR, c]
    · have c := app_at (t := t) c2
      simp [isTyR, c]
    · rfl
  obtain ⟨env2, S4, r2, w4, w5, rfl, rfl⟩ := turns_all (f := turnF (.nm 5) fun env s => evSs (O (k + 6)) l1__law_right env s) (h := id) (l := vals) (env := [some (.loc n), v1, v2, v3, v4, none, none, none, none]) (s := S3)
    (I := fun i env X => ∃ (w4 w5 : Option Mi.D), env = [some (.loc n), v1, v2, v3, w4, w5, none, none, none] ∧ X = S3)
    ⟨v4, none, rfl, rfl⟩ (fun i d hi env X => by
      rintro ⟨w4, w5, rfl, rfl⟩
      have hd := List.mem_of_getElem? hi
      exact ⟨_, X, odd_turn (k := k) (by have := odd d hd []; rwa [List.append_nil] at this) (odd d hd _), _, _, rfl, rfl⟩)
  rw [List.map_id] at r2
  -- three texts
  have told := told_all (k := k) (S := S4) (e0 := some (.loc n)) (e1 := v1) (e2 := v2) (e3 := v3) (e4 := w4) (e5 := w5) (e6 := none) (e7 := none) (e8 := none)
  obtain ⟨TL3, hTL⟩ : ∃ z : List Mi.D, [.exc "BadWeb" (.int 1), .exc "BadWeb" (.int 1), .exc "BadWeb" (.int 2)] = z := ⟨_, rfl⟩
  obtain ⟨S5, hS5⟩ : ∃ z, S4 ++ [Cell.lst TL3] = z := ⟨_, rfl⟩
  have P5 := P3.app (u := [.lst TL3])
  rw [hS5] at P5
  have c5 : S5[S4.length]? = some (.lst TL3) := by rw [← hS5]; exact app_end
  have sr5 : srcP (.val (.loc S4.length)) S5 = some (.at_ S4.length 3) := by rw [← hTL] at c5; simp [srcP, c5]
  have ei : excIs "BadWeb" ("BadWeb" : Str) = true := by decide +kernel
  have m1 : ∀ v8 : Option Mi.D, mapSrc (turnC (.nm 8) [8] [some (.loc n), v1, v2, v3, w4, w5, some (.loc S4.length), none, v8] fun env s => ev (O (k + 6)) e2__law_right env s) (.at_ S4.length 3) S5 = .ok [.bl true, .bl true, .bl true] S5 := fun v8 =>
    mapSrc_loc (h := fun v : Int => Mi.D.exc "BadWeb" (.int v)) (g := fun _ => Mi.D.bl true) (l := [1, 1, 2]) (by rw [c5, ← hTL]; rfl) fun v _ => by
      generalize O (k + 6) = o at *
      simp [turnC, wipe, e2__law_right, ev, ei]
  have m2 : ∀ v8 : Option Mi.D, mapSrc (turnC (.nm 8) [8] [some (.loc n), v1, v2, v3, w4, w5, some (.loc S4.length), none, v8] fun env s => ev (O (k + 6)) e1__law_right env s) (.at_ S4.length 3) S5 = .ok [.int 1, .int 1, .int 2] S5 := fun v8 =>
    mapSrc_loc (h := fun v : Int => Mi.D.exc "BadWeb" (.int v)) (g := fun v => Mi.D.int v) (l := [1, 1, 2]) (by rw [c5, ← hTL]; rfl) fun v _ => by
      generalize O (k + 6) = o at *
      simp [turnC, wipe, e1__law_right, ev]
  obtain ⟨S6, hS6⟩ : ∃ z, S5 ++ [Cell.lst [.int 1, .int 1, .int 2]] = z := ⟨_, rfl⟩
  have P6 := P5.app (u := [.lst [.int 1, .int 1, .int 2]])
  rw [hS6] at P6
  have rp : b1 .repr (.loc S5.length) S6 = some (.str ("[1, 1, 2]" : Str)) := by
    have c6 : S6[S5.length]? = some (.lst [.int 1, .int 1, .int 2]) := by rw [← hS6]; exact app_end
    have z : toPy S6 60 (.loc S5.length) = some (.list [.int 1, .int 1, .int 2]) := by
      rw [toPy, c6]
      rfl
    have h : ((PyData.list [.int 1, .int 1, .int 2]).showable && decide ((PyData.list [.int 1, .int 1, .int 2]).shown.length ≤ sizeMax)) = true := by decide +kernel
    have sh : (PyData.list [.int 1, .int 1, .int 2]).shown = ("[1, 1, 2]" : Str) := by decide +kernel
    unfold b1
    simp only [z]
    rw [← sh]
    exact if_pos h
  have back : (evSs (O (k + 6)) b__law_right [some (.loc n), none, none, none, none, none, none, none, none] S).back = some (.bl true, S6) := by
    have rg := rg1 (n := 10) (by decide)
    have z10 : (10 : Int).toNat = 10 := rfl
    rw [z10, irange_map] at rg
    have g1 : evS (O (k + 6)) b__law_right.hd [some (.loc n), none, none, none, none, none, none, none, none] S = .ok .nxt [some (.loc n), v1, v2, v3, v4, none, none, none, none] S1 := by
      clear r2 told m1 m2 odd
      generalize O (k + 6) = o at *
      generalize ((List.range 10).map fun (i : Nat) => Mi.D.int (i : Int)) = RG at *
      simp [b__law_right, Ss.hd, evS, evi, ev, evs, rg, srcP, r1]
    have g2 : evS (O (k + 6)) b__law_right.tl.hd [some (.loc n), v1, v2, v3, v4, none, none, none, none] S1 = .ok .nxt [some (.loc n), v1, v2, v3, w4, w5, none, none, none] S4 := by
      have hn : S1 ++ [Cell.lst [.str "road a u v"], Cell.dk []] = S4 := by rw [← hS3, ← hS2]; simp
      have l2 : S2.length = S1.length + 1 := by rw [← hS2]; simp
      rw [hv, l2] at r2
      clear r1 told m1 m2 odd g1
      generalize O (k + 6) = o at *
      simp [b__law_right, Ss.hd, Ss.tl, evS, evi, ev, evs, srcP, sizeMax, hn, r2]
    have g3 : evS (O (k + 6)) b__law_right.tl.tl.hd [some (.loc n), v1, v2, v3, w4, w5, none, none, none] S4 = .ok .nxt [some (.loc n), v1, v2, v3, w4, w5, some (.loc S4.length), none, none] S5 := by
      have fl : TL3.length ≤ 16777216 := by rw [← hTL]; decide
      rw [hTL] at told
      clear r1 r2 m1 m2 odd g1 g2
      generalize O (k + 6) = o at *
      simp [b__law_right, Ss.hd, Ss.tl, evS, evv, ev, evs, srcP, sizeMax, told, fl, hS5]
    rw [evSs_step g1, evSs_step g2, evSs_step g3]
    have al : bq .all false [Mi.D.bl true, .bl true, .bl true] = some (.bl true) := rfl
    have eq : cmpop .eq (.str ("[1, 1, 2]" : Str)) (.str ("[1, 1, 2]" : Str)) S6 = some true := by simp [cmpop, eqR, scEq]
    clear r1 r2 told odd g1 g2 g3
    generalize O (k + 6) = o at *
    simp [b__law_right, Ss.tl, evSs, evS, evv, ev, evs, evAnd, sr5, m1, m2, sizeMax, sqP, al, hS6, rp, eq, RS.back]
  obtain ⟨S7, e7, P7⟩ := P6.sweep0 (d := .bl true) rfl
  refine ⟨S7, ?_, P7.le (by omega)⟩
  refine (call_eq (fd := d__law_right) rfl rfl rfl).trans ?_
  rw [runF_back (d := .bl true) (s' := S6), e7]
  exact back
def lvl : Nat := 8
theorem answers : ∀ ns : List Int, ns.length ≤ 63 → (∀ z ∈ ns, Builtin.Int.intBits z ≤ 1048576) → ∃ s, callN T.fdef keep lvl f_law (scr ns) [] = .ok (.bl true) s := fun ns hn hb =>
  law_all draws rfl rfl (by decide) hb (k := 6) fun s n hp => by
    obtain ⟨S', e, P'⟩ := c_right (k := 0) (Pz.of_pot hp) (by decide)
    obtain ⟨x, y, z, e2, _⟩ := P'.2
    rw [List.append_nil] at e2
    exact ⟨_, by rw [← e2]; exact e⟩
end K01

open PySem PySem.W PySem.Calls PyProof.Rows
theorem PySem.Challenge.cw_roadqueues_k01_lines_of_no_web_holds : PySem.Challenge.rw_roadqueues_k01_lines_of_no_web.Holds := by
  w_on; o_law
  refine HandSHeadRun.head_any (q := view K01.row.prog [K01.lawAt]) (H := K01.hk) (ob := K01.ob) (M := 4000) (loose := K01.loose) (d := HandSHeadRun.topDef K01.row.prog K01.lawAt) (kwd := []) K01.ob_is
    (by kernel_rfl) (fun s => by kernel_rfl) K01.goes (by kernel_rfl) (by kernel_rfl) (by kernel_rfl) (by rfl) (by first | assumption | decide +kernel) (by decide +kernel) ⟨rfl, rfl, rfl, rfl, rfl, by decide +kernel⟩ ?_ ?_
  · w_witness2
  · exact Mi.law_end (l := PySem.Challenge.rw_roadqueues_k01_lines_of_no_web) (n := 63) (k := K01.lvl) (f := K01.f_law) (nf := K01.n_law) rfl (by decide) (by kernel_rfl) ⟨rfl, by decide, by decide⟩ rfl (by kernel_rfl) rfl K01.oks (by decide +kernel) (fun _ _ y => Mi.known_of (file := K01.file) (by decide +kernel) (by decide +kernel) rfl (by kernel_rfl) y) K01.answers

